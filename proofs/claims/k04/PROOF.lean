import PyProof.Rows.All
import Wide.All
import OpenK.AllK
import Wide.FinOn
import KE.KStateDown
import HandS.ForExc
import HandS.Defaults
import HandS.Head0
import HandS.Head1
import HandS.Head2
import HandS.HeadEnd
import HandS.HeadHook1
import HandS.HeadHook2
import HandS.ForMost
import HandS.Wide
import HandS.IsInst
import HandS.Flow
import HandS.Evl
import PyProof.ReprRoads
import PyProof.CallFns
import HandS.Text
import HandS.Walk
import HandS.ExcInit
import HandS.ExcIs
import HandS.ExcOwn
import HandS.TryMany
import KE.KExcInit
import HandS.MakeKwOnly
import KE.KCallOwn
import OpenK.KOps
import HandS.FStr
import PyProof.ExcRepr
import PyProof.ExcReprCall
import HandS.NamedTupSort
import PyProof.StrLawsRepr
import PyProof.ReprLen
import PyProof.StrLawsChain
import PyProof.StrLawsTight
import HandS.StrMore
import HandS.WordsDict
import HandS.More
import HandS.Style
import KE.KExcMake
import KE.KExcMore
import PySem.Challenge.RW_weekheads_k04_refusals_apart
import PyProof.NeKinds
import PyProof.EqKinds
import PyProof.MeetsIn
import HandS.OwnEq
import KE.KFmtOwn
import HandS.SortKw
import KE.GoesEnumKw
import HandS.Conv
import KE.SortData
import HandS.DictTup
import HandS.ListItems
set_option Elab.async false
set_option linter.all false
set_option maxRecDepth 100000
set_option maxHeartbeats 4000000
/-! The head by a Hook of our own: the objects that the facts speak of are few, and picked by names. -/
namespace WA
open PySem PySem.Spec PyProof.Rows L2
/-- a name's value in a namespace, for picking alone -/
def nm (g : Addr → Option Obj) (n : Addr) (x : Str) : Option Value := (g n).bind fun o => match o.data with
  | .dict es _ => (es.toList.find? fun e => e.key.isStr x).map fun e => e.val
  | _ => none
def ad : Option Value → Addr
  | some (.ref a) => a
  | _ => 0
def adV : Value → List Addr
  | .ref a => [a]
  | _ => []
def nsOf (g : Addr → Option Obj) (C : Addr) : Addr := match g C with
  | some o => (match o.data with
    | .cls cd => cd.ns
    | _ => 0)
  | none => 0
def fnOf (g : Addr → Option Obj) (f : Addr) : List Addr := match g f with
  | some o => (match o.data with
    | .func fd => f :: (adV fd.code ++ adV fd.defaults)
    | _ => [f])
  | none => []
def atOf (g : Addr → Option Obj) (p : Str × Option Str) : Addr := match p.2 with
  | none => ad (nm g mainGlobals p.1)
  | some m => ad (nm g (nsOf g (ad (nm g mainGlobals p.1))) m)
/-- the objects that are looked at: the module's names, the classes, the defs -/
def pick (g : Addr → Option Obj) (cs : List Str) (fs : List (Str × Option Str)) : List Addr :=
  mainGlobals :: sysModules :: cStatics :: ((cs.flatMap fun x => [ad (nm g mainGlobals x), nsOf g (ad (nm g mainGlobals x))]) ++ fs.flatMap fun p => fnOf g (atOf g p))
/-- a list is laid open ahead of what follows -/
def openL {α : Type} : PySem.W.Frag → (PySem.W.Frag → α) → α
  | [], k => k []
  | (a, o) :: r, k => HandSHeadRun.frNat a fun a => openL r fun r => k ((a, o) :: r)
theorem openL_eq {α : Type} : ∀ (K : PySem.W.Frag) (k : PySem.W.Frag → α), openL K k = k K
  | [], k => rfl
  | (a, o) :: r, k => by
    show HandSHeadRun.frNat a (fun a => openL r fun r => k ((a, o) :: r)) = _
    rw [HandSHeadRun.frNat_eq, openL_eq r]
abbrev Fx := PySem.W.Frag → Bool
abbrev AlX : Type := Bool × List He.FnW
def obsX (fx : List Fx) (fn : List He.DefD) (K : PySem.W.Frag) : AlX := ((fx.all fun f => f K) && fn.all fun d => d.ok K, fn.map fun d => He.fnW K d.at_)
def valX (fn : List He.DefD) : AlX := (true, fn.map He.DefD.val)
def SaysX (fx : List Fx) (fn : List He.DefD) (K : PySem.W.Frag) : Prop := obsX fx fn K = valX fn
def obsXG (cs : List Str) (fx : List Fx) (fn : List He.DefD) (g : Addr → Option Obj) : AlX := openL (He.frG g (pick g cs (fn.map fun d => d.at_))) fun K => obsX fx fn K
def hookX (cs : List Str) (fx : List Fx) (fn : List He.DefD) : PySem.W.Hook where
  α := AlX
  obs := fun s => obsXG cs fx fn s.heap.get?
  val := fun _ => valX fn
  says := fun _ h => ∃ K : PySem.W.Frag, K.In h ∧ SaysX fx fn K
  of := fun _ _ e => ⟨_, He.frG_in, by
    unfold obsXG at e
    rw [openL_eq] at e
    exact e⟩
  keeps := fun _ _ _ ⟨K, X, c⟩ k => ⟨K, X.keeps k, c⟩
theorem obsXG_eq {cs : List Str} {fx : List Fx} {fn : List He.DefD} {g : Addr → Option Obj} {s : Shared} (h : ∀ a, g a = s.heap.get? a) : obsXG cs fx fn g = (hookX cs fx fn).obs s := by
  have e : g = s.heap.get? := funext h
  rw [e]
  rfl
section
variable {fx : List Fx} {fn : List He.DefD} {K : PySem.W.Frag}
theorem SaysX.two (c : SaysX fx fn K) : (∀ f ∈ fx, f K = true) ∧ (∀ d ∈ fn, d.ok K = true) ∧ fn.map (fun d => He.fnW K d.at_) = fn.map He.DefD.val := by
  have c1 : ((fx.all fun f => f K) && fn.all fun d => d.ok K) = true := congrArg Prod.fst c
  have c2 : fn.map (fun d => He.fnW K d.at_) = fn.map He.DefD.val := congrArg Prod.snd c
  obtain ⟨a, b⟩ := He.ba c1
  exact ⟨List.all_eq_true.mp a, List.all_eq_true.mp b, c2⟩
theorem SaysX.fact (c : SaysX fx fn K) (i : Nat) {f : Fx} (h : fx[i]? = some f := by rfl) : f K = true := c.two.1 f (List.mem_of_getElem? h)
theorem SaysX.def_ (c : SaysX fx fn K) (i : Nat) {d : He.DefD} (h : fn[i]? = some d := by rfl) : ∃ fd, FunD K d.name d.qual d.params d.body d.scope (d.dvs K) (d.kws K) (He.fAd K d.at_) fd := by
  obtain ⟨_, b, e⟩ := c.two
  have e1 : (fn.map fun d => He.fnW K d.at_)[i]? = (fn.map He.DefD.val)[i]? := by rw [e]
  rw [List.getElem?_map, List.getElem?_map, h] at e1
  exact He.DefD.funD (Option.some.inj e1) (b d (List.mem_of_getElem? h))
end
end WA

set_option maxRecDepth 100000
set_option maxHeartbeats 4000000
/-! The heap in two parts: cells R that may change, and data D that never changes again. -/
namespace Wk
open PySem PySem.Spec PyProof.Rows L2
structure HI (H : Hp) (R : List (Addr × HO)) (D : Hp) : Prop where
  nd : (R.map (·.1)).Nodup
  cell : ∀ p ∈ R, H p.1 = some p.2 ∧ D p.1 = none
  sub : ∀ a o, D a = some o → H a = some o
/-- more data -/
def Ex (D D' : Hp) : Prop := ∀ a o, D a = some o → D' a = some o
theorem Ex.refl (D : Hp) : Ex D D := fun _ _ h => h
theorem Ex.trans {D D1 D2 : Hp} (a : Ex D D1) (b : Ex D1 D2) : Ex D D2 := fun x o h => b x o (a x o h)
theorem Ex.new {D : Hp} {p : Addr} {o : HO} (h : D p = none) : Ex D (upd D p o) := fun a u e => by
  rw [upd_ne (ne_of_none e h)]
  exact e
section
variable {H D : Hp} {R : List (Addr × HO)} {a p : Addr} {o u : HO} {x y z : Addr × HO}
theorem HI.get (h : HI H R D) (m : (a, o) ∈ R) : H a = some o := (h.cell _ m).1
theorem HI.dat (h : HI H R D) (d : D a = some o) : H a = some o := h.sub a o d
theorem HI.free (h : HI H R D) (hp : H p = none) : D p = none := by
  cases q : D p with
  | none => rfl
  | some w =>
    rw [h.sub p w q] at hp
    cases hp
theorem HI.notin (h : HI H R D) (hp : H p = none) : p ∉ R.map (·.1) := fun m => by
  obtain ⟨q, hq, e⟩ := List.mem_map.mp m
  have := (h.cell q hq).1
  rw [e, hp] at this
  cases this
/-- a new cell -/
theorem HI.new (h : HI H R D) (hp : H p = none) : HI (upd H p o) ((p, o) :: R) D := by
  have nm := h.notin hp
  refine ⟨by rw [List.map_cons]; exact List.nodup_cons.mpr ⟨nm, h.nd⟩, fun q hq => ?_, fun b w e => ?_⟩
  · rcases List.mem_cons.mp hq with e | hq
    · rw [e]
      exact ⟨upd_same, h.free hp⟩
    · have ne : q.1 ≠ p := fun e => nm (List.mem_map.mpr ⟨q, hq, e⟩)
      rw [upd_ne ne]
      exact h.cell q hq
  · rw [upd_ne (ne_of_none (h.sub b w e) hp)]
    exact h.sub b w e
/-- new data -/
theorem HI.newD (h : HI H R D) (hp : H p = none) : HI (upd H p o) R (upd D p o) := by
  have nm := h.notin hp
  refine ⟨h.nd, fun q hq => ?_, fun b w e => ?_⟩
  · have ne : q.1 ≠ p := fun e => nm (List.mem_map.mpr ⟨q, hq, e⟩)
    rw [upd_ne ne, upd_ne ne]
    exact h.cell q hq
  · by_cases e2 : b = p
    · rw [e2, upd_same] at e ⊢
      exact e
    · rw [upd_ne e2] at e ⊢
      exact h.sub b w e
/-- a cell is changed -/
theorem HI.set (h : HI H ((a, o) :: R) D) : HI (upd H a u) ((a, u) :: R) D := by
  have nd : a ∉ R.map (·.1) := (List.nodup_cons.mp h.nd).1
  refine ⟨h.nd, fun q hq => ?_, fun b w e => ?_⟩
  · rcases List.mem_cons.mp hq with e | hq
    · rw [e]
      exact ⟨upd_same, (h.cell (a, o) (List.mem_cons_self ..)).2⟩
    · have ne : q.1 ≠ a := fun e => nd (List.mem_map.mpr ⟨q, hq, e⟩)
      rw [upd_ne ne]
      exact h.cell q (List.mem_cons_of_mem _ hq)
  · have ne : b ≠ a := fun e2 => by
      rw [e2, (h.cell (a, o) (List.mem_cons_self ..)).2] at e
      cases e
    rw [upd_ne ne]
    exact h.sub b w e
/-- a cell becomes data -/
theorem HI.freeze (h : HI H ((a, o) :: R) D) : HI H R (upd D a o) := by
  have nd : a ∉ R.map (·.1) := (List.nodup_cons.mp h.nd).1
  refine ⟨(List.nodup_cons.mp h.nd).2, fun q hq => ?_, fun b w e => ?_⟩
  · have ne : q.1 ≠ a := fun e => nd (List.mem_map.mpr ⟨q, hq, e⟩)
    rw [upd_ne ne]
    exact h.cell q (List.mem_cons_of_mem _ hq)
  · by_cases e2 : b = a
    · rw [e2, upd_same] at e
      cases e
      rw [e2]
      exact (h.cell (a, o) (List.mem_cons_self ..)).1
    · rw [upd_ne e2] at e
      exact h.sub b w e
theorem HI.freezeX (h : HI H ((a, o) :: R) D) : Ex D (upd D a o) := Ex.new (h.cell (a, o) (List.mem_cons_self ..)).2
/-- forgetting a cell -/
theorem HI.drop (h : HI H (x :: R) D) : HI H R D := ⟨(List.nodup_cons.mp h.nd).2, fun q hq => h.cell q (List.mem_cons_of_mem _ hq), h.sub⟩
theorem HI.perm {R' : List (Addr × HO)} (h : HI H R D) (p : R.Perm R') : HI H R' D :=
  ⟨(p.map (·.1)).nodup_iff.mp h.nd, fun q hq => h.cell q (p.mem_iff.mpr hq), h.sub⟩
theorem HI.swap (h : HI H (x :: y :: R) D) : HI H (y :: x :: R) D := h.perm (List.Perm.swap ..)
theorem HI.up2 (h : HI H (x :: y :: z :: R) D) : HI H (z :: x :: y :: R) D := h.perm (by
  refine List.Perm.trans (List.Perm.cons x (List.Perm.swap z y R)) ?_
  exact List.Perm.swap z x (y :: R))
theorem HI.dn2 (h : HI H (x :: y :: z :: R) D) : HI H (y :: z :: x :: R) D := h.perm (by
  refine List.Perm.trans (List.Perm.swap y x (z :: R)) ?_
  exact List.Perm.cons y (List.Perm.swap z x R))
theorem HI.new2 (h : HI H (x :: R) D) (hp : H p = none) : HI (upd H p o) (x :: (p, o) :: R) D := (h.new hp).swap
theorem HI.set2 (h : HI H (x :: (a, o) :: R) D) : HI (upd H a u) (x :: (a, u) :: R) D := h.swap.set.swap
theorem HI.set3 (h : HI H (x :: y :: (a, o) :: R) D) : HI (upd H a u) (x :: y :: (a, u) :: R) D := h.up2.set.dn2
theorem HI.freeze2 (h : HI H (x :: (a, o) :: R) D) : HI H (x :: R) (upd D a o) := h.swap.freeze
end
/-- a new object, data from now on; a new cell -/
def AlD (o : HO) (H : Hp) (Q : VK) : Prop := ∀ p, H p = none → Q (.ref p) (upd H p o)
def AlM (o : HO) (H : Hp) (Q : VK) : Prop := ∀ p, H p = none → Q (.ref p) (upd H p o)
theorem al_D {H D : Hp} {R : List (Addr × HO)} {o : HO} {Q : VK} (h : HI H R D) (k : ∀ p H' D', HI H' R D' → Ex D D' → D' p = some o → Q (.ref p) H') : AlD o H Q :=
  fun p hp => k p _ _ (h.newD hp) (Ex.new (h.free hp)) upd_same
theorem al_M {H D : Hp} {R : List (Addr × HO)} {o : HO} {Q : VK} (h : HI H R D) (k : ∀ p H', HI H' ((p, o) :: R) D → Q (.ref p) H') : AlM o H Q :=
  fun p hp => k p _ (h.new hp)
theorem HI.up3 {H D : Hp} {R : List (Addr × HO)} {x y z u : Addr × HO} (h : HI H (x :: y :: z :: u :: R) D) : HI H (u :: x :: y :: z :: R) D := h.perm (by
  refine List.Perm.trans (List.Perm.cons x (List.Perm.cons y (List.Perm.swap u z R))) ?_
  refine List.Perm.trans (List.Perm.cons x (List.Perm.swap u y (z :: R))) ?_
  exact List.Perm.swap u x (y :: z :: R))
/-! ### steps through a reading -/
section
variable {K : PySem.W.Frag} {σ : L2.St} {H : Hp} {Q : VK} {ta tb tc te : TE} {D : Ends} {t u : TS} {tt tt2 : TT} {QB : Bool → Hp → Prop}
theorem st_seq (h : t { D with nx := u D } σ H) : tSeq t u D σ H := h
theorem st_asg {g : TG} (h : te σ H fun x H1 => g x σ H1 D.nx) : tAsg te g D σ H := h
theorem st_ret (h : te σ H D.rt) : tRet te D σ H := h
theorem st_if (h : tt σ H fun b H1 => if b = true then t D σ H1 else u D σ H1) : tIfS tt t u D σ H := h
theorem st_drop (h : te σ H fun _ H1 => D.nx σ H1) : tDrop te D σ H := h
theorem st_next (h : D.nx σ H) : tNext D σ H := h
theorem st_brk (h : D.bk σ H) : tBreak D σ H := h
theorem st_cont (h : D.ct σ H) : tCont D σ H := h
theorem sg_name {i : Nat} {v : V} {N : L2.St → Hp → Prop} (h : N (σ.set i (some v)) H) : gName i v σ H N := h
theorem sg_sub {to ti : TE} {s : TSet} {v : V} {N : L2.St → Hp → Prop} (h : to σ H fun o H1 => ti σ H1 fun i H2 => s o i v H2 fun H3 => N σ H3) : gSub to ti s v σ H N := h
theorem sg_tup {n : Nat} {gs : TGs} {a : Addr} {xs : List V} {N : L2.St → Hp → Prop} (hx : SqT K H a xs) (hl : xs.length = n) (h : gs xs σ H N) : gTup K n gs (.ref a) σ H N := ⟨a, xs, rfl, hx, hl, h⟩
theorem sg_nil {N : L2.St → Hp → Prop} (h : N σ H) : gNil [] σ H N := ⟨rfl, h⟩
theorem sg_cons {g : TG} {gs : TGs} {v : V} {r : List V} {N : L2.St → Hp → Prop} (h : g v σ H fun σ' H' => gs r σ' H' N) : gCons g gs (v :: r) σ H N := ⟨v, r, rfl, h⟩
theorem se_var {i : Nat} {v : V} (e : σ[i]? = some (some v)) (h : Q v H) : tVar i σ H Q := ⟨v, e, h⟩
theorem se_c {v : V} (h : Q v H) : tC v σ H Q := h
theorem se_op {r : R2} (h : ta σ H fun x H1 => tb σ H1 fun y H2 => r x y H2 Q) : tOp r ta tb σ H Q := h
theorem se_un {r : V → Hp → VK → Prop} (h : ta σ H fun x H1 => r x H1 Q) : tUn r ta σ H Q := h
theorem se_tup {t : TA} (h : t σ H fun xs H1 => xs.length ≤ sizeLine ∧ AlD (.tup xs) H1 Q) : tTup t σ H Q := h
theorem se_lst {t : TA} (h : t σ H fun xs H1 => xs.length ≤ sizeLine ∧ AlD (.lst xs) H1 Q) : tLst t σ H Q := h
/-- a list that will change -/
def tLstM (t : TA) : TE := tLst t
theorem se_lstM {t : TA} (h : t σ H fun xs H1 => xs.length ≤ sizeLine ∧ AlM (.lst xs) H1 Q) : tLstM t σ H Q := h
theorem sa_nil {N : List V → Hp → Prop} (h : N [] H) : tNil σ H N := h
theorem sa_cons {t : TA} {N : List V → Hp → Prop} (h : te σ H fun x H1 => t σ H1 fun xs H2 => N (x :: xs) H2) : tCons te t σ H N := h
theorem se_call {sp : Sp} {dvs : List V} {E : XK} {t : TA} (h : t σ H fun vs H1 => sp (vs ++ dvs) H1 Q E) : tCall sp dvs E t σ H Q := h
theorem se_cb {r : List V → Hp → VK → Prop} {t : TA} (h : t σ H fun vs H1 => r vs H1 Q) : tCB r t σ H Q := h
theorem se_if (h : tt σ H fun b H1 => if b = true then ta σ H1 Q else tb σ H1 Q) : tIf tt ta tb σ H Q := h
theorem st_test (h : te σ H fun x H1 => ∃ k, x = .bl k ∧ QB k H1) : tTest te σ H QB := h
theorem st_B (h : te σ H fun x H1 => ∃ k, x = .bl k ∧ QB k H1) : tB te σ H QB := h
theorem st_bl {k : Bool} {N : Bool → Prop} (h : N k) : ∃ k', (V.bl k) = .bl k' ∧ N k' := ⟨k, rfl, h⟩
theorem st_and (h : tt σ H fun c H1 => if c = true then tt2 σ H1 QB else QB false H1) : tAnd tt tt2 σ H QB := h
theorem st_or (h : tt σ H fun c H1 => if c = true then QB true H1 else tt2 σ H1 QB) : tOr tt tt2 σ H QB := h
theorem st_not (h : tt σ H fun c H1 => QB (!c) H1) : tNot tt σ H QB := h
theorem ri_mk {C : Int → Int → Prop} {g : Int → Int → V} {i j : Int} (c : C i j) (h : Q (g i j) H) : rI C g (.int i) (.int j) H Q := ⟨i, j, rfl, rfl, c, h⟩
theorem ri0_mk {g : Int → Int → V} {i j : Int} (h : Q (g i j) H) : rI0 g (.int i) (.int j) H Q := ⟨i, j, rfl, rfl, h⟩
end
theorem if_dec {c A B : Prop} [Decidable c] (h1 : c → A) (h2 : ¬ c → B) : if decide c = true then A else B := by
  by_cases h : c
  · rw [if_pos (decide_eq_true h)]
    exact h1 h
  · rw [if_neg (by rw [decide_eq_false h]; decide)]
    exact h2 h
theorem if_decN {c A B : Prop} [Decidable c] (h1 : c → B) (h2 : ¬ c → A) : if (!decide c) = true then A else B := by
  by_cases h : c
  · rw [decide_eq_true h]
    exact iteF (h1 h)
  · rw [decide_eq_false h]
    exact iteT (h2 h)
theorem if_yes {c A B : Prop} [Decidable c] (h : c) (a : A) : if decide c = true then A else B := by
  rw [if_pos (decide_eq_true h)]
  exact a
theorem if_no {c A B : Prop} [Decidable c] (h : ¬ c) (b : B) : if decide c = true then A else B := by
  rw [if_neg (by rw [decide_eq_false h]; decide)]
  exact b
theorem if_yesN {c A B : Prop} [Decidable c] (h : c) (b : B) : if (!decide c) = true then A else B := by
  rw [decide_eq_true h]
  exact iteF b
theorem if_noN {c A B : Prop} [Decidable c] (h : ¬ c) (a : A) : if (!decide c) = true then A else B := by
  rw [decide_eq_false h]
  exact iteT a
theorem small_ok {n : Nat} (h : n ≤ 1000000) : n ≤ sizeLine := Nat.le_trans h (by rw [sizeLine_eq]; decide)
theorem and_on {A B : Prop} (a : A) (b : B) : A ∧ B := ⟨a, b⟩
end Wk

set_option maxRecDepth 100000
set_option maxHeartbeats 4000000
/-! A def's promise where nothing shows itself around (so that repr may be called), and the calls of such defs. -/
namespace Wk
open PySem PySem.Spec PyProof.Rows L2
/-- the function object that stands at f -/
def fdOf (K : PySem.W.Frag) (f : Addr) : FuncData := match K.lookup f with
  | some ⟨_, _, .func fd, _⟩ => fd
  | _ => PySem.W.fnOf "" "" { posonlyargs := [], args := [], vararg := none, kwonlyargs := [], kw_defaults := [], kwarg := none, defaults := [] } [] { kind := .function, names := [], isGenerator := false, isCoroutine := false } .none .none .none .none none .none .none
/-- a def of the text, as it stands behind the top -/
def FD (K : PySem.W.Frag) (x qual : Str) (st : Stmt) (dvs : List V) (f : Addr) : Prop := FunD K x qual (defArgs st) (defBody st) (defScope st) dvs [] f (fdOf K f)
theorem fd_of {K : PySem.W.Frag} {x qual : Str} {st : Stmt} {dvs : List V} {f : Addr} {fd : FuncData} (F : FunD K x qual (defArgs st) (defBody st) (defScope st) dvs [] f fd) : FD K x qual st dvs f := by
  obtain ⟨oc, od, dV, kV, doc, pm, an, cdv, ct, osl, e, lk, r⟩ := F.ex
  have q : fdOf K f = fd := by
    unfold fdOf
    rw [lk]
  unfold FD
  rw [q]
  exact F
/-- the promise: FnOk's, where no container is about to be shown around -/
structure FnG (P : Program) (w : World) (K : PySem.W.Frag) (mg : Str → Option Value) (base : Heap) (k : Nat) (f : Addr) (ps : List Str) (sp : Sp) : Prop where
  len : ∀ vs H Q E, sp vs H Q E → vs.length = ps.length
  run : ∀ (A : Around) (outer : List Env) (s : Shared) (H : Hp) (args : Args) (us : List Value) (vs : List V) (Q : VK) (E : XK), A.guards = some [] → Room k A → Env0 P w K mg base A outer s H →
    BindsTo s (fdOf K f) args (ps.zip us) → Vals vs us → sp vs H Q E → codeAny (model P w) A (.call (.ref f) args) (CR (L2.CX P w) outer P w H s Q E) s
theorem FnG.mono {P : Program} {w : World} {K : PySem.W.Frag} {mg : Str → Option Value} {base : Heap} {j k : Nat} {f : Addr} {ps : List Str} {sp : Sp} (F : FnG P w K mg base j f ps sp) (h : j ≤ k) : FnG P w K mg base k f ps sp :=
  ⟨F.len, fun A outer s H args us vs Q E hg hr => F.run A outer s H args us vs Q E hg (hr.mono h)⟩
section
variable {P : Program} {w : World} {K : PySem.W.Frag} {mg : Str → Option Value} {base : Heap}
theorem FD.ok {x qual : Str} {st : Stmt} {dvs : List V} {f : Addr} {N ps : List Str} {k : Nat} {sp : Sp} (F : FD K x qual st dvs f) (S : FnScope N ps (defScope st)) (len : ∀ vs H Q E, sp vs H Q E → vs.length = ps.length)
    (hbody : ∀ (cdv : Value) (A : Around) (outer : List Env) (s : Shared) (H : Hp) (vs : List V) (Q : VK) (E : XK), A.guards = some [] → Room k (A.deeper (envOfC qual (defScope st) s.heap.objs.size f cdv)) → sp vs H Q E →
      ∃ t, PSs (cxOf (L2.CX P w) P w K mg base N qual (defScope st) f cdv A outer s H E) (defBody st) t ∧ t { nx := fun _ H' => Q .non H', rt := Q } (start N vs) H) : FnG P w K mg base (k + 1) f ps sp := by
  obtain ⟨oc, od, dV, kV, doc, pm, an, cdv, ct, osl, efd, lk, hcd, _, _⟩ := FunD.ex F
  refine ⟨len, fun A outer s H args us vs Q E hgu hr e0 hb r hsp => ?_⟩
  have hl := len _ _ _ _ hsp
  have KX : K.In s.heap := e0.mod.kin.keeps fun b o e => (e0.bs b o e).1
  have lim : s.heap.NoLimit := e0.mod.nolimit.keeps fun b o e => (e0.bs b o e).1
  rw [efd] at lk hb
  have hk : ∀ y ∈ ps.zip us, (defScope st).names.lookup y.1 = some .local ∨ ((defScope st).names.lookup y.1 = some .cell ∧ ((cellsFrom (s.heap.objs.size + 1) (defScope st).names []).lookup y.1).isSome = true) := fun ⟨n, v⟩ hy => by
    rcases S.par n (List.of_mem_zip hy).1 with q | q
    · exact .inl q
    · exact .inr ⟨q, PySem.W.cellsFrom_some _ _ _ (.inl q)⟩
  refine codeAny_call_function hr.depth (KX _ _ lk) rfl S.co S.gen rfl (PySem.W.codeRec_of KX hcd) (hb _ _ _ _ ?_)
  refine wpAny_newFunctionEnv_cells S.kind hk fun env he s1 x => ?_
  subst he
  refine ⟨lim.keeps x.toInCall.keep, codeAny_func ?_⟩
  obtain ⟨t, ht, hq⟩ := hbody cdv A outer s H vs Q E hgu (hr.deeper _) hsp
  have I : Inv (cxOf (L2.CX P w) P w K mg base N qual (defScope st) f cdv A outer s H E) [] (start N vs) H s1 := inv_start S hr.hd e0 hl r x
  refine wpAny_mono (ht.run [] s1 (start N vs) H _ I hq) (fun fl s' hs => ?_) fun e s' hs => hs
  cases fl with
  | ret u =>
    obtain ⟨v, σ', H', J, rv, q⟩ := hs
    exact ⟨v, H', J.os, J.bare, J.base, J.hok, rv, q⟩
  | next =>
    obtain ⟨σ', H', J, q⟩ := hs
    exact ⟨V.non, H', J.os, J.bare, J.base, J.hok, rfl, q⟩
  | brk =>
    obtain ⟨_, _, _, q⟩ := hs
    exact False.elim q
  | cont =>
    obtain ⟨_, _, _, q⟩ := hs
    exact False.elim q
end
/-! ### calls -/
/-- what a callee lets out is taken at the caller's slots -/
def PassG (X : Cx) (σ : L2.St) (E : XK) : Prop := ∀ (pins : List (Addr × Obj)) (H : Hp) (s : Shared) (e : Value) (s' : Shared), Inv X pins σ H s → L2.CX X.prog X.w X.stack H s E e s' → X.xe e s'
theorem pass_none {X : Cx} {σ : L2.St} : PassG X σ E0 := fun _ _ _ _ _ _ h => by
  obtain ⟨_, _, _, _, _, _, _, _, _, _, _, _, z⟩ := h
  exact z.elim
theorem pass_takes {X : Cx} {W : L2.WX} {σ : L2.St} (tk : Takes X W) : PassG X σ (fun cls d H => W cls d σ H) :=
  fun _ _ _ e s' I c => tk e s' (XE.of_call I (fun _ _ _ h => h) c)
section
variable {X : Cx} {k : Nat} {f C : Addr} {ps ks : List Str} {sp : Sp} {dvs : List V} {ds : List Value} {E : L2.St → XK} {x m : Str} {p pos apos : Pos} {e o : Expr} {es : List Expr} {ta : TE} {t tk : TA} {kws : List Keyword}
theorem run_fnG {pins : List (Addr × Obj)} {σ : L2.St} {H : Hp} {s : Shared} {Q : VK} {us : List Value} {kw : List (Str × Value)} {ws : List Value} {zs : List V} (F : FnG X.prog X.w X.K X.mg X.base k f ps sp) (hgu : X.A.guards = some []) (hr : Room k X.A)
    (hx : PassG X σ (E σ)) (I : Inv X pins σ H s) (hb : BindsTo s (fdOf X.K f) ⟨us, kw⟩ (ps.zip ws)) (r : Vals zs ws) (h : sp zs H Q (E σ)) : wpAny (model X.prog X.w) X.A (call (.ref f) us kw) (EP X pins σ Q) X.xe s := by
  refine wpAny_call (codeAny_mono (F.run X.A X.stack s H ⟨us, kw⟩ ws zs Q (E σ) hgu hr I.env0 hb r h) fun r s' hq => ?_)
  cases r with
  | error e => exact hx pins H s e s' I hq
  | ok fl =>
    cases fl with
    | ret u => exact I.after hq
    | next => exact False.elim hq
    | brk => exact False.elim hq
    | cont => exact False.elim hq
def gCall (sp : Sp) (dvs : List V) (E : L2.St → XK) (t : TA) : TE := fun σ H Q => t σ H fun vs H1 => sp (vs ++ dvs) H1 Q (E σ)
theorem bind_of {ds : List Value} {dvs : List V} {s : Shared} {H : Hp} {Q : VK} {E : XK} {us : List Value} {vs : List V} (F : FnG X.prog X.w X.K X.mg X.base k f ps sp) (hb : Binds X.K (fdOf X.K f) ps ds) (hd : Vals dvs ds) (r : Vals vs us) (KX : X.K.In s.heap) (h : sp (vs ++ dvs) H Q E) :
    BindsTo s (fdOf X.K f) ⟨us, []⟩ (ps.zip (us ++ ds)) := by
  refine hb s us KX ?_
  rw [← (r.append hd).length]
  exact F.len _ _ _ _ h
theorem ge_call (F : FnG X.prog X.w X.K X.mg X.base k f ps sp) (hgu : X.A.guards = some []) (hr : Room k X.A) (hg : Gl X x) (hm : X.mg x = some (.ref f)) (hk : PySem.W.keepIn X.K (.ref f) = true) (hb : Binds X.K (fdOf X.K f) ps ds) (hd : Vals dvs ds) (hx : ∀ σ, PassG X σ (E σ))
    (ha : PA X (e :: es) t) (hdb : (x == ("__debug__" : Str)) = false := by decide) (he : starEach (e :: es) X.env = (false, eval e X.env) :: starEach es X.env := by rfl) (hpl : (backTo pos (starEach es X.env)).any (·.1) = false := by rfl) :
    PE X (.Call (.Name x p) (e :: es) [] pos) (gCall sp dvs E t) := by
  refine ⟨fun pins s σ H Q I h => ?_⟩
  refine wpAny_Call_Name_kw (ld_glob I hg hm ?_ hdb)
  refine PySem.W.callWith_K (h₀ := X.base) I.ok.mod.kin hk (thn (ha.run pos pins s σ H _ I h) fun us s1 ⟨vs, H1, I1, r, q⟩ => ⟨I1.kIn, ?_⟩) he hpl
  exact run_fnG F hgu hr (hx σ) I1 (bind_of F hb hd r I1.kIn q) (r.append hd) q
def gMeth (C : Addr) (m : Str) (sp : Sp) (dvs : List V) (E : L2.St → XK) (ta : TE) (t : TA) : TE := fun σ H Q => ta σ H fun x H1 => ∃ a dx fs, x = .ref a ∧ H1 a = some (.ins C dx fs) ∧ fs.lookup m = none ∧
  t σ H1 fun vs H2 => sp (x :: (vs ++ dvs)) H2 Q (E σ)
theorem ge_meth {pl : Sem Bool} (he : PE X o ta) (c : Cls X.K C) (hm : Meth X.K C m f) (F : FnG X.prog X.w X.K X.mg X.base k f ps sp) (hgu : X.A.guards = some []) (hr : Room k X.A) (hb : Binds X.K (fdOf X.K f) ps ds) (hd : Vals dvs ds) (hx : ∀ σ, PassG X σ (E σ)) (ha : PA X (e :: es) t)
    (hst : starEach (e :: es) X.env = (false, eval e X.env) :: starEach es X.env := by rfl) (hpl : (backTo pos (starEach es X.env)).any (·.1) = false := by rfl)
    (ht : eval (.Call (.Attribute o m apos) (e :: es) [] pos) X.env = (do
      let ov ← eval o X.env
      standAt apos.atName
      let (f, first) ← holding [ov] (getMethod ov m pl)
      callWith pos f first (backTo pos (starEach (e :: es) X.env)) (backToKw pos (keywordEach [] X.env))) := by rfl) :
    PE X (.Call (.Attribute o m apos) (e :: es) [] pos) (gMeth C m sp dvs E ta t) := by
  refine ⟨fun pins s σ H Q I h => ?_⟩
  refine PySem.W.methodCall_KW (pl := pl) (thn (he.run pins s σ H _ I h) fun u s1 ⟨x, H1, I1, rx, a, dx, fs, ex, ea, l, q⟩ => ?_) ht
  subst ex
  obtain rfl : u = Value.ref a := rx
  refine getmeth_ok I1 ea c hm l ?_
  refine PySem.W.callWith_K (first := [.ref a]) (h₀ := X.base) I.ok.mod.kin hm.kp (thn (ha.run pos pins s1 σ H1 _ I1 q) fun us s2 ⟨vs, H2, I2, r, q2⟩ => ⟨I2.kIn, ?_⟩) hst hpl
  have r2 : Vals (V.ref a :: vs) (Value.ref a :: us) := .cons rfl r
  exact run_fnG F hgu hr (hx σ) I2 (bind_of F hb hd r2 I2.kIn q2) (r2.append hd) q2
theorem ge_meth0 {pl : Sem Bool} (he : PE X o ta) (c : Cls X.K C) (hm : Meth X.K C m f) (F : FnG X.prog X.w X.K X.mg X.base k f ps sp) (hgu : X.A.guards = some []) (hr : Room k X.A) (hb : Binds X.K (fdOf X.K f) ps ds) (hd : Vals dvs ds) (hx : ∀ σ, PassG X σ (E σ))
    (ht : eval (.Call (.Attribute o m apos) [] [] pos) X.env = (do
      let ov ← eval o X.env
      standAt apos.atName
      let (f, first) ← holding [ov] (getMethod ov m pl)
      callWith pos f first (backTo pos (starEach [] X.env)) (backToKw pos (keywordEach [] X.env))) := by rfl) :
    PE X (.Call (.Attribute o m apos) [] [] pos) (gMeth C m sp dvs E ta tNil) := by
  refine ⟨fun pins s σ H Q I h => ?_⟩
  refine PySem.W.methodCall_KW (pl := pl) (thn (he.run pins s σ H _ I h) fun u s1 ⟨x, H1, I1, rx, a, dx, fs, ex, ea, l, q⟩ => ?_) ht
  subst ex
  obtain rfl : u = Value.ref a := rx
  refine getmeth_ok I1 ea c hm l ?_
  have r2 : Vals [V.ref a] [Value.ref a] := .cons rfl .nil
  have q2 : sp ([V.ref a] ++ dvs) H1 Q (E σ) := q
  exact PySem.W.callWith_K0 (first := [.ref a]) I1.kIn hm.kp (run_fnG F hgu hr (hx σ) I1 (bind_of F hb hd r2 I1.kIn q2) (r2.append hd) q2)
/-! ### a new instance -/
def gMake (C : Addr) (sp : Sp) (dvs : List V) (E : L2.St → XK) (t : TA) : TE := fun σ H Q => t σ H fun vs H1 => ∀ x dx, H1 x = none → H1 dx = none → dx ≠ x →
  sp (.ref x :: (vs ++ dvs)) (upd (upd H1 dx (.own x)) x (.ins C dx [])) (fun v H2 => v = .non ∧ Q (.ref x) H2) (E σ)
theorem make_guards {A : Around} {C : Addr} {us : List Value} {kw : List (Str × Value)} (h : A.guards = some []) : (A.under (.builtin "type.__call__" ⟨.ref C :: us, kw⟩)).guards = some [] := by
  simp [Around.under, Code.guards, Code.isGuard, guardIds, pushGuards, h]
theorem run_makeG {pins : List (Addr × Obj)} {σ : L2.St} {H : Hp} {s : Shared} {Q : VK} {us : List Value} {kw : List (Str × Value)} (M : Mk X.K C f) (F : FnG X.prog X.w X.K X.mg X.base k f ps sp) (hgu : X.A.guards = some []) (hr : Room (k + 1) X.A)
    (hx : PassG X σ (E σ)) (I : Inv X pins σ H s) (zs : V → List V) (ws : Value → List Value) (hb : ∀ (y : Addr) (s' : Shared), X.K.In s'.heap → BindsTo s' (fdOf X.K f) ⟨Value.ref y :: us, kw⟩ (ps.zip (ws (.ref y)))) (r : ∀ y, Vals (zs (.ref y)) (ws (.ref y)))
    (h : ∀ x dx, H x = none → H dx = none → dx ≠ x → sp (zs (.ref x)) (upd (upd H dx (.own x)) x (.ins C dx [])) (fun v H2 => v = .non ∧ Q (.ref x) H2) (E σ)) :
    wpAny (model X.prog X.w) X.A (call (.ref C) us kw) (EP X pins σ Q) X.xe s := by
  have hq := h (s.heap.objs.size + 1) s.heap.objs.size (I.hok.fresh (Nat.le_succ _)) (I.hok.fresh (Nat.le_refl _)) (Nat.ne_of_lt (Nat.lt_succ_self _))
  have I2 := Inv.made (C := C) I
  refine wpAny_call (make_map (f := f) I.kIn M.makes M.init (beq_iff_eq.mp M.fn) (codeAny_mono (F.run _ X.stack _ _ ⟨Value.ref (s.heap.objs.size + 1) :: us, kw⟩ _ _ _ (E σ) (make_guards hgu) (hr.make C us kw)
    (I2.env0.make C us kw) (hb _ _ I2.kIn) (r _) hq) fun r s' hq' => ?_))
  cases r with
  | error e => exact hx pins _ _ e s' I2 hq'
  | ok fl =>
    cases fl with
    | ret u =>
      obtain ⟨v, H', I3, rv, ev, q3⟩ := I2.after hq'
      subst ev
      exact ⟨rv, ⟨V.ref (s.heap.objs.size + 1), H', I3, rfl, q3⟩⟩
    | next => exact False.elim hq'
    | brk => exact False.elim hq'
    | cont => exact False.elim hq'
theorem ge_make (M : Mk X.K C f) (F : FnG X.prog X.w X.K X.mg X.base k f ps sp) (hgu : X.A.guards = some []) (hr : Room (k + 1) X.A) (hg : Gl X x) (hm : X.mg x = some (.ref C)) (hb : Binds X.K (fdOf X.K f) ps ds) (hd : Vals dvs ds) (hx : ∀ σ, PassG X σ (E σ))
    (ha : PA X (e :: es) t) (hdb : (x == ("__debug__" : Str)) = false := by decide) (he : starEach (e :: es) X.env = (false, eval e X.env) :: starEach es X.env := by rfl) (hpl : (backTo pos (starEach es X.env)).any (·.1) = false := by rfl) :
    PE X (.Call (.Name x p) (e :: es) [] pos) (gMake C sp dvs E t) := by
  refine ⟨fun pins s σ H Q I h => ?_⟩
  refine wpAny_Call_Name_kw (ld_glob I hg hm ?_ hdb)
  refine PySem.W.callWith_K (h₀ := X.base) I.ok.mod.kin M.kp (thn (ha.run pos pins s σ H _ I h) fun us s1 ⟨vs, H1, I1, r, q⟩ => ⟨I1.kIn, ?_⟩) he hpl
  have hl : (us ++ ds).length + 1 = ps.length := by
    have e1 := (r.append hd).length
    have hq := q (s1.heap.objs.size + 1) s1.heap.objs.size (I1.hok.fresh (Nat.le_succ _)) (I1.hok.fresh (Nat.le_refl _)) (Nat.ne_of_lt (Nat.lt_succ_self _))
    have e2 := F.len _ _ _ _ hq
    rw [List.length_cons, e1] at e2
    exact e2
  exact run_makeG M F hgu hr (hx σ) I1 (fun y => y :: (vs ++ dvs)) (fun y => y :: (us ++ ds)) (fun y s' KX => hb s' (Value.ref y :: us) KX hl) (fun y => .cons rfl (r.append hd)) q
end
end Wk

set_option maxRecDepth 100000
set_option maxHeartbeats 4000000
/-! Data by trees, repr of them. -/
namespace Wk
open PySem PySem.Spec PyProof.Rows L2
def kD : Key → PyData
  | .inl i => .int i
  | .inr x => .str x
mutual
/-- the value v stands for the tree -/
inductive Rep (H : Hp) : V → PyData → Prop
  | non : Rep H .non .none
  | bl (b : Bool) : Rep H (.bl b) (.bool b)
  | int (i : Int) : Rep H (.int i) (.int i)
  | str (x : Str) : Rep H (.str x) (.str x)
  | lst {a : Addr} {vs : List V} {ds : List PyData} : H a = some (.lst vs) → RepL H vs ds → Rep H (.ref a) (.list ds)
  | tup {a : Addr} {vs : List V} {ds : List PyData} : H a = some (.tup vs) → RepL H vs ds → Rep H (.ref a) (.tuple ds)
  | dict {a : Addr} {kvs : List (Key × V)} {ds : List (PyData × PyData)} : H a = some (.dK kvs) → RepK H kvs ds → Rep H (.ref a) (.dict ds)
inductive RepL (H : Hp) : List V → List PyData → Prop
  | nil : RepL H [] []
  | cons {v : V} {vs : List V} {d : PyData} {ds : List PyData} : Rep H v d → RepL H vs ds → RepL H (v :: vs) (d :: ds)
inductive RepK (H : Hp) : List (Key × V) → List (PyData × PyData) → Prop
  | nil : RepK H [] []
  | cons {k : Key} {v : V} {kvs : List (Key × V)} {d : PyData} {ds : List (PyData × PyData)} : Rep H v d → RepK H kvs ds → RepK H ((k, v) :: kvs) ((kD k, d) :: ds)
end
mutual
theorem Rep.mono {H H' : Hp} (e : Ex H H') : ∀ {v : V} {d : PyData}, Rep H v d → Rep H' v d
  | _, _, .non => .non
  | _, _, .bl b => .bl b
  | _, _, .int i => .int i
  | _, _, .str x => .str x
  | _, _, .lst h l => .lst (e _ _ h) (RepL.mono e l)
  | _, _, .tup h l => .tup (e _ _ h) (RepL.mono e l)
  | _, _, .dict h l => .dict (e _ _ h) (RepK.mono e l)
theorem RepL.mono {H H' : Hp} (e : Ex H H') : ∀ {vs : List V} {ds : List PyData}, RepL H vs ds → RepL H' vs ds
  | _, _, .nil => .nil
  | _, _, .cons h l => .cons (Rep.mono e h) (RepL.mono e l)
theorem RepK.mono {H H' : Hp} (e : Ex H H') : ∀ {vs : List (Key × V)} {ds : List (PyData × PyData)}, RepK H vs ds → RepK H' vs ds
  | _, _, .nil => .nil
  | _, _, .cons h l => .cons (Rep.mono e h) (RepK.mono e l)
end
theorem HI.rep {H D : Hp} {R : List (Addr × HO)} {v : V} {d : PyData} (h : HI H R D) (r : Rep D v d) : Rep H v d := r.mono h.sub
theorem RepL.length {H : Hp} : ∀ {vs : List V} {ds : List PyData}, RepL H vs ds → vs.length = ds.length
  | _, _, .nil => rfl
  | _, _, .cons _ l => congrArg Nat.succ (RepL.length l)
theorem RepL.get {H : Hp} : ∀ {vs : List V} {ds : List PyData} {i : Nat} {v : V}, RepL H vs ds → vs[i]? = some v → ∃ d, ds[i]? = some d ∧ Rep H v d
  | _, _, _, _, .nil, e => by simp at e
  | _, _, 0, _, .cons h _, e => by
    simp at e
    subst e
    exact ⟨_, rfl, h⟩
  | _, _, i + 1, _, .cons _ l, e => by
    obtain ⟨d, h1, h2⟩ := RepL.get (i := i) l (by simpa using e)
    exact ⟨d, by simpa using h1, h2⟩
theorem RepL.getD {H : Hp} : ∀ {vs : List V} {ds : List PyData} {i : Nat} {d : PyData}, RepL H vs ds → ds[i]? = some d → ∃ v, vs[i]? = some v ∧ Rep H v d
  | _, _, _, _, .nil, e => by simp at e
  | _, _, 0, _, .cons h _, e => by
    simp at e
    subst e
    exact ⟨_, rfl, h⟩
  | _, _, i + 1, _, .cons _ l, e => by
    obtain ⟨d, h1, h2⟩ := RepL.getD (i := i) l (by simpa using e)
    exact ⟨d, by simpa using h1, h2⟩
theorem RepL.append {H : Hp} : ∀ {vs ws : List V} {ds es : List PyData}, RepL H vs ds → RepL H ws es → RepL H (vs ++ ws) (ds ++ es)
  | _, _, _, _, .nil, r => r
  | _, _, _, _, .cons h l, r => .cons h (RepL.append l r)
theorem RepL.take {H : Hp} : ∀ {vs : List V} {ds : List PyData} (n : Nat), RepL H vs ds → RepL H (vs.take n) (ds.take n)
  | _, _, 0, _ => .nil
  | _, _, _ + 1, .nil => .nil
  | _, _, n + 1, .cons h l => .cons h (RepL.take n l)
theorem RepL.drop {H : Hp} : ∀ {vs : List V} {ds : List PyData} (n : Nat), RepL H vs ds → RepL H (vs.drop n) (ds.drop n)
  | _, _, 0, r => r
  | _, _, _ + 1, .nil => .nil
  | _, _, n + 1, .cons _ l => RepL.drop n l
theorem RepL.snoc {H : Hp} {vs : List V} {ds : List PyData} {v : V} {d : PyData} (l : RepL H vs ds) (h : Rep H v d) : RepL H (vs ++ [v]) (ds ++ [d]) := l.append (.cons h .nil)
section
variable {X : Cx} {pins : List (Addr × Obj)} {σ : L2.St} {H : Hp} {s : Shared}
/-- the written part holds the table of modules -/
def HasSys (K : PySem.W.Frag) : Prop := ∃ o, K.lookup sysModules = some o
theorem not_sys (I : Inv X pins σ H s) (hs : HasSys X.K) {a : Addr} {o : HO} (h : H a = some o) : a ≠ sysModules := fun e => by
  obtain ⟨ob, ho⟩ := hs
  have z := (I.bs sysModules ob (I.ok.mod.kin _ _ ho)).2
  rw [e, z] at h
  cases h
theorem reads_kd {h : Heap} : ∀ {k : Key} {u : Value}, keyIs k u = true → ∃ as, Reads h u (kD k) as ∧ sysModules ∉ as
  | .inl i, u, e => by
    obtain ⟨t, rfl⟩ := Value.isInt_shape (k := i) (v := u) e
    exact ⟨_, Reads.int i t, by simp⟩
  | .inr x, u, e => by
    obtain ⟨t, rfl⟩ := Value.isStrOf_shape (x := x) (v := u) e
    exact ⟨_, Reads.str x t, by simp⟩
mutual
theorem Rep.reads (I : Inv X pins σ H s) (hs : HasSys X.K) : ∀ {v : V} {d : PyData} {u : Value}, Rep H v d → RelV v u → ∃ as, Reads s.heap u d as ∧ sysModules ∉ as
  | _, _, _, .non, r => by
    cases r
    exact ⟨_, Reads.none, by simp⟩
  | _, _, _, .bl b, r => by
    cases r
    exact ⟨_, Reads.bool b, by simp⟩
  | _, _, _, .int i, r => by
    obtain ⟨t, rfl⟩ := r
    exact ⟨_, Reads.int i t, by simp⟩
  | _, _, _, .str x, r => by
    obtain ⟨t, rfl⟩ := r
    exact ⟨_, Reads.str x t, by simp⟩
  | _, _, _, .lst h l, r => by
    cases r
    obtain ⟨its, rv, ⟨o, n, ho, hc, _, hd⟩, _⟩ := I.list (SqL.of h)
    obtain ⟨as, hr, hn⟩ := RepL.reads I hs l rv
    exact ⟨_, Reads.list ho hc hd hr, by
      rw [List.mem_cons]
      exact not_or.mpr ⟨(not_sys I hs h).symm, hn⟩⟩
  | _, _, _, .tup h l, r => by
    cases r
    obtain ⟨its, rv, ⟨o, ho, hc, n, hd⟩, _⟩ := I.tuple (SqT.of h)
    obtain ⟨as, hr, hn⟩ := RepL.reads I hs l rv
    exact ⟨_, Reads.tuple ho hc hd hr, hn⟩
  | _, _, _, .dict h l, r => by
    cases r
    obtain ⟨_, _, vs, rv, o, es, ep, ho, hx, hd, _, hp, _⟩ := I.hok _ _ h
    obtain ⟨as, bs, h1, h2, n1, n2⟩ := RepK.reads I hs l rv hp
    exact ⟨_, Reads.dict ho hx.1 hd h1 h2, by
      rw [List.cons_append, List.mem_cons, List.mem_append]
      exact not_or.mpr ⟨(not_sys I hs h).symm, not_or.mpr ⟨n1, n2⟩⟩⟩
theorem RepL.reads (I : Inv X pins σ H s) (hs : HasSys X.K) : ∀ {vs : List V} {ds : List PyData} {us : List Value}, RepL H vs ds → Vals vs us → ∃ as, ReadsAll s.heap us ds as ∧ sysModules ∉ as
  | _, _, _, .nil, r => by
    cases r
    exact ⟨_, ReadsAll.nil, by simp⟩
  | _, _, _, .cons h l, r => by
    cases r with
    | cons r1 r2 =>
      obtain ⟨as, q1, n1⟩ := Rep.reads I hs h r1
      obtain ⟨bs, q2, n2⟩ := RepL.reads I hs l r2
      exact ⟨_, ReadsAll.cons q1 q2, by
        rw [List.mem_append]
        exact not_or.mpr ⟨n1, n2⟩⟩
theorem RepK.reads (I : Inv X pins σ H s) (hs : HasSys X.K) : ∀ {kvs : List (Key × V)} {ds : List (PyData × PyData)} {us : List (Key × Value)} {es : List DictEntry}, RepK H kvs ds → KV kvs us → Pairs (mixKind X.prog X.w) es us →
    ∃ as bs, ReadsAll s.heap (es.map (·.key)) (ds.map (·.1)) as ∧ ReadsAll s.heap (es.map (·.val)) (ds.map (·.2)) bs ∧ sysModules ∉ as ∧ sysModules ∉ bs
  | _, _, _, _, .nil, r, p => by
    cases r
    cases p
    exact ⟨_, _, ReadsAll.nil, ReadsAll.nil, by simp, by simp⟩
  | _, _, _, _, .cons h l, r, p => by
    cases r with
    | cons r1 r2 =>
      cases p with
      | cons p1 p2 p3 =>
        obtain ⟨e1, e2⟩ := r1
        obtain ⟨as, bs, q1, q2, n1, n2⟩ := RepK.reads I hs l r2 p3
        rw [← e1] at p1
        obtain ⟨a1, g1, m1⟩ := reads_kd (h := s.heap) (show keyIs _ _ = true from p1)
        rw [← p2] at e2
        obtain ⟨a2, g2, m2⟩ := Rep.reads I hs h e2
        exact ⟨_, _, ReadsAll.cons g1 q1, ReadsAll.cons g2 q2, by
          rw [List.mem_append]
          exact not_or.mpr ⟨m1, n1⟩, by
          rw [List.mem_append]
          exact not_or.mpr ⟨m2, n2⟩⟩
end
end
/-- repr(x) -/
def rRepr : List V → Hp → VK → Prop := fun xs H Q => ∃ x d, xs = [x] ∧ Rep H x d ∧ d.showable = true ∧ d.shown.length ≤ sizeLine ∧ d.depth ≤ 60 ∧ Q (.str d.shown) H
theorem call_repr {X : Cx} {k : Nat} (hgu : X.A.guards = some []) (hr : Room k X.A) (hs : HasSys X.K) : CallR X (.builtin "repr") rRepr := by
  intro pins s σ H xs us Q I r h
  obtain ⟨x, d, rfl, hx, h1, h2, h3, q⟩ := h
  obtain ⟨u, rfl, ru⟩ := vals1 r
  have hu := hr.units
  have fin : ∀ h' t tk, (∀ b o, s.heap.get? b = some o → h'.get? b = some o) → EP X pins σ Q (.str d.shown t) { s with heap := h', toks := tk } := fun h' t tk k => ⟨.str d.shown, H, I.kept k, ⟨_, rfl⟩, q⟩
  cases hx with
  | non => cases ru; exact P.repr_of_none (fin s.heap _ _ fun _ _ e => e)
  | bl b => cases ru; exact P.repr_of_bool (fin s.heap _ _ fun _ _ e => e)
  | int i =>
    obtain ⟨t, rfl⟩ := ru
    exact P.repr_of_int (by simpa [PyData.showable] using h1) (fin s.heap _ _ fun _ _ e => e)
  | str z =>
    obtain ⟨t, rfl⟩ := ru
    exact P.repr_of_str (fin s.heap _ _ fun _ _ e => e) h2
  | lst e l =>
    obtain ⟨as, hrd, hn⟩ := Rep.reads I hs (.lst e l) ru
    cases ru
    exact repr_of_reads' hrd h1 (fun _ => hn) hgu (by omega) (fun _ _ e => e) (fun h' u tk k => fin h' u tk k) h2
  | tup e l =>
    obtain ⟨as, hrd, hn⟩ := Rep.reads I hs (.tup e l) ru
    cases ru
    exact repr_of_reads' hrd h1 (fun _ => hn) hgu (by omega) (fun _ _ e => e) (fun h' u tk k => fin h' u tk k) h2
  | dict e l =>
    obtain ⟨as, hrd, hn⟩ := Rep.reads I hs (.dict e l) ru
    cases ru
    exact repr_of_reads' hrd h1 (fun _ => hn) hgu (by omega) (fun _ _ e => e) (fun h' u tk k => fin h' u tk k) h2
end Wk

set_option maxRecDepth 100000
set_option maxHeartbeats 4000000
/-! One rule a piece of syntax: what the values are decides at the reading. -/
namespace Wk
open PySem PySem.Spec PyProof.Rows L2
/-! ### + -/
inductive RAdd : V → V → Hp → VK → Prop
  | int {i j : Int} {H : Hp} {Q : VK} : Q (.int (i + j)) H → RAdd (.int i) (.int j) H Q
  | str {a b : Str} {H : Hp} {Q : VK} : a.length + b.length ≤ sizeLine → Q (.str (a ++ b)) H → RAdd (.str a) (.str b) H Q
  | lst {p q : Addr} {xs ys : List V} {H : Hp} {Q : VK} : H p = some (.lst xs) → H q = some (.lst ys) → xs.length + ys.length ≤ sizeLine → AlD (.lst (xs ++ ys)) H Q → RAdd (.ref p) (.ref q) H Q
  | tup {p q : Addr} {xs ys : List V} {H : Hp} {Q : VK} : H p = some (.tup xs) → H q = some (.tup ys) → xs ≠ [] → ys ≠ [] → xs.length + ys.length ≤ sizeLine → AlD (.tup (xs ++ ys)) H Q → RAdd (.ref p) (.ref q) H Q
  | tup0 {p q : Addr} {xs : List V} {H : Hp} {Q : VK} : H p = some (.tup xs) → H q = some (.tup []) → xs ≠ [] → xs.length ≤ sizeLine → Q (.ref p) H → RAdd (.ref p) (.ref q) H Q
/-- the same, where the new list will change -/
inductive RAddM : V → V → Hp → VK → Prop
  | lst {p q : Addr} {xs ys : List V} {H : Hp} {Q : VK} : H p = some (.lst xs) → H q = some (.lst ys) → xs.length + ys.length ≤ sizeLine → AlM (.lst (xs ++ ys)) H Q → RAddM (.ref p) (.ref q) H Q
section
variable {X : Cx}
theorem op_addU : OpR X (binaryOp .Add) (RAdd) := by
  intro pins s σ H x y v u Q I rx ry h
  cases h with
  | int q => exact op_add pins s σ H _ _ v u Q I rx ry ⟨_, _, rfl, rfl, q⟩
  | str hl q => exact op_add_str pins s σ H _ _ v u Q I rx ry ⟨_, _, rfl, rfl, hl, q⟩
  | lst h1 h2 hl q => exact op_cat pins s σ H _ _ v u Q I rx ry ⟨_, _, _, _, rfl, rfl, h1, h2, hl, q⟩
  | tup h1 h2 n1 n2 hl q => exact op_catT pins s σ H _ _ v u Q I rx ry ⟨_, _, _, _, rfl, rfl, SqT.of h1, SqT.of h2, n1, hl, fun e => absurd e n2, fun _ => q⟩
  | tup0 h1 h2 n1 hl q => exact op_catT pins s σ H _ _ v u Q I rx ry ⟨_, _, _, _, rfl, rfl, SqT.of h1, SqT.of h2, n1, hl, fun _ => q, fun n => absurd rfl n⟩
theorem op_addUM : OpR X (binaryOp .Add) (RAddM) := by
  intro pins s σ H x y v u Q I rx ry h
  cases h with
  | lst h1 h2 hl q => exact op_cat pins s σ H _ _ v u Q I rx ry ⟨_, _, _, _, rfl, rfl, h1, h2, hl, q⟩
end
/-! ### * -/
/-- a text, written n times -/
def strRep (a : Str) (n : Nat) : Str := ⟨(List.replicate n a.cps).foldl (· ++ ·) #[]⟩
inductive RMul : V → V → Hp → VK → Prop
  | str {a : Str} {k : Int} {H : Hp} {Q : VK} : 1 ≤ a.length → a.length ≤ 1000 → 1 ≤ k → k ≤ 1000 → Q (.str (strRep a k.toNat)) H → RMul (.str a) (.int k) H Q
  | int {i j : Int} {H : Hp} {Q : VK} : CMul i j → Q (.int (i * j)) H → RMul (.int i) (.int j) H Q
  | lst {p : Addr} {k : Int} {xs : List V} {H : Hp} {Q : VK} : H p = some (.lst xs) → -(2 ^ 63) ≤ k → k < 2 ^ 63 → xs.length * k.toNat ≤ sizeLine → AlD (.lst (List.replicate k.toNat xs).flatten) H Q → RMul (.ref p) (.int k) H Q
inductive RMulM : V → V → Hp → VK → Prop
  | lst {p : Addr} {k : Int} {xs : List V} {H : Hp} {Q : VK} : H p = some (.lst xs) → -(2 ^ 63) ≤ k → k < 2 ^ 63 → xs.length * k.toNat ≤ sizeLine → AlM (.lst (List.replicate k.toNat xs).flatten) H Q → RMulM (.ref p) (.int k) H Q
section
variable {X : Cx}
theorem op_mulU : OpR X (binaryOp .Mult) (RMul) := by
  intro pins s σ H x y v u Q I rx ry h
  cases h with
  | @str a k _ _ a0 a1 k0 k1 q =>
    obtain ⟨t, rfl⟩ := rx
    obtain ⟨t', rfl⟩ := ry
    have e1 : decide (k < -(2 ^ 63 : Int)) = false := decide_eq_false (by omega)
    have e2 : decide (k ≥ 2 ^ 63) = false := decide_eq_false (by omega)
    have hm : a.length * k.toNat ≤ 1000 * 1000 := Nat.mul_le_mul a1 (by omega)
    refine PySem.P.mul_str (by rw [e1, e2]; rfl) (fun _ _ => ?_) (fun _ _ => ?_) ?_
    · have : (1000 : Int) ≤ (2 ^ 63 - 1) / k := by
        refine Int.le_ediv_of_mul_le (by omega) ?_
        have : 1000 * k ≤ 1000 * 1000 := by omega
        omega
      omega
    · show decide (a.length * k.toNat > sizeLine) = false
      rw [sizeLine_eq]
      exact decide_eq_false (by omega)
    · rw [if_neg (by omega)]
      by_cases h1 : k = 1
      · subst h1
        have e : strRep a (Int.toNat 1) = a := by
          show (⟨#[] ++ a.cps⟩ : Str) = a
          obtain ⟨x⟩ := a
          simp
        rw [e] at q
        exact ⟨.str a, H, I, ⟨t, rfl⟩, q⟩
      · have e3 : (k == 1 || a.length == 0) = false := by
          rw [Bool.or_eq_false_iff]
          exact ⟨beq_eq_false_iff_ne.mpr h1, beq_eq_false_iff_ne.mpr (by omega)⟩
        rw [e3]
        have hl : (strRep a k.toNat).length ≤ sizeLine := by
          have : ∀ (n : Nat) (acc : Array Nat), ((List.replicate n a.cps).foldl (· ++ ·) acc).size = acc.size + a.length * n := by
            intro n
            induction n with
            | zero => intro acc; simp
            | succ n ih =>
              intro acc
              rw [List.replicate_succ, List.foldl_cons, ih, Array.size_append, Nat.mul_succ]
              have : a.cps.size = a.length := rfl
              omega
          show ((List.replicate k.toNat a.cps).foldl (· ++ ·) #[]).size ≤ sizeLine
          rw [this, sizeLine_eq]
          simp
          omega
        exact ⟨hl, .str _, H, I.tok _, ⟨_, rfl⟩, q⟩
  | int hc q => exact op_mul pins s σ H _ _ v u Q I rx ry ⟨_, _, rfl, rfl, hc, q⟩
  | lst h1 h2 h3 hl q => exact op_rep pins s σ H _ _ v u Q I rx ry ⟨_, _, _, rfl, rfl, h1, h2, h3, hl, q⟩
theorem op_mulUM : OpR X (binaryOp .Mult) (RMulM) := by
  intro pins s σ H x y v u Q I rx ry h
  cases h with
  | lst h1 h2 h3 hl q => exact op_rep pins s σ H _ _ v u Q I rx ry ⟨_, _, _, rfl, rfl, h1, h2, h3, hl, q⟩
end
/-! ### ==, != -/
mutual
theorem Rep.dp {K : PySem.W.Frag} {H : Hp} : ∀ {v : V} {d : PyData}, Rep H v d → d.hasDict = false → Dp K H v d
  | _, _, .non, _ => .non
  | _, _, .bl b, _ => .bl b
  | _, _, .int i, _ => .int i
  | _, _, .str x, _ => .str x
  | _, _, .lst h l, n => .lst (SqL.of h) (RepL.dp l (by simpa [PyData.hasDict] using n))
  | _, _, .tup h l, n => .tup (SqT.of h) (RepL.dp l (by simpa [PyData.hasDict] using n))
  | _, _, .dict h l, n => by simp [PyData.hasDict] at n
theorem RepL.dp {K : PySem.W.Frag} {H : Hp} : ∀ {vs : List V} {ds : List PyData}, RepL H vs ds → PyData.hasDictAll ds = false → DpAll K H vs ds
  | _, _, .nil, _ => .nil
  | _, _, .cons h l, n => by
    simp only [PyData.hasDictAll, Bool.or_eq_false_iff] at n
    exact .cons (Rep.dp h n.1) (RepL.dp l n.2)
end
inductive REq (neg : Bool) : V → V → Hp → VK → Prop
  | scal {x y : V} {H : Hp} {Q : VK} : scal x y = true → Q (.bl (if neg then !decide (x = y) else decide (x = y))) H → REq neg x y H Q
  | dat {x y : V} {d e : PyData} {H : Hp} {Q : VK} : Rep H x d → Rep H y e → d.hasDict = false → e.hasDict = false → SeqAt.shaped d = true → SeqAt.shaped e = true → Q (.bl (if neg then !PyData.eqv d e else PyData.eqv d e)) H → REq neg x y H Q
section
variable {X : Cx}
theorem op_eqU (hu : X.A.units + 64 < cLine) : OpR X (compareOp .Eq) (REq false) := by
  intro pins s σ H x y v u Q I rx ry h
  cases h with
  | scal h1 q => exact op_eq pins s σ H _ _ v u Q I rx ry ⟨h1, q⟩
  | dat h1 h2 n1 n2 s1 s2 q => exact op_eqD hu pins s σ H _ _ v u Q I rx ry ⟨_, _, h1.dp n1, h2.dp n2, s1, s2, q⟩
theorem op_neU (hu : X.A.units + 64 < cLine) : OpR X (compareOp .NotEq) (REq true) := by
  intro pins s σ H x y v u Q I rx ry h
  cases h with
  | scal h1 q => exact op_ne pins s σ H _ _ v u Q I rx ry ⟨h1, q⟩
  | dat h1 h2 n1 n2 s1 s2 q => exact op_neD hu pins s σ H _ _ v u Q I rx ry ⟨_, _, h1.dp n1, h2.dp n2, s1, s2, q⟩
end
/-! ### in, not in -/
inductive RIn (neg : Bool) : V → V → Hp → VK → Prop
  | sign {c : Nat} {z : Str} {H : Hp} {Q : VK} : Q (.bl (if neg then !decide (c ∈ z.cps.toList) else decide (c ∈ z.cps.toList))) H → RIn neg (.str ⟨#[c]⟩) (.str z) H Q
  | lst {x : V} {p : Addr} {xs : List V} {H : Hp} {Q : VK} : H p = some (.lst xs) → flatV x = true → xs.all flatV = true → Q (.bl (if neg then !inV x xs else inV x xs)) H → RIn neg x (.ref p) H Q
section
variable {X : Cx}
theorem op_inU : OpR X (compareOp .In) (RIn false) := by
  intro pins s σ H x y v u Q I rx ry h
  cases h with
  | sign q => exact op_in_sign pins s σ H _ _ v u Q I rx ry ⟨_, _, rfl, rfl, q⟩
  | lst h1 h2 h3 q => exact op_in_seq pins s σ H _ _ v u Q I rx ry ⟨_, _, rfl, .inl (SqL.of h1), h2, h3, q⟩
theorem op_niU : OpR X (compareOp .NotIn) (RIn true) := by
  intro pins s σ H x y v u Q I rx ry h
  cases h with
  | sign q => exact op_notIn_sign pins s σ H _ _ v u Q I rx ry ⟨_, _, rfl, rfl, q⟩
  | lst h1 h2 h3 q => exact op_notIn_seq pins s σ H _ _ v u Q I rx ry ⟨_, _, rfl, .inl (SqL.of h1), h2, h3, q⟩
end
/-! ### is, is not: None, True, False on the right -/
theorem is_bl_rel {prog : Program} {w : World} {A : Around} {E : Value → Shared → Prop} {s : Shared} {x : V} {v : Value} {b : Bool} {Q : Value → Shared → Prop} (r : RelV x v) (h : Q (.bool (decide (x = .bl b))) s) : wpAny (model prog w) A (compareOp .Is v (.bool b)) Q E s := by
  cases x with
  | non => cases r; exact wpAny_pure (a := Value.bool false) (by simpa using h)
  | bl c =>
    cases r
    refine is_bool ?_
    rw [show (c == b) = decide (V.bl c = .bl b) from dec_bl.symm]
    exact h
  | int _ => obtain ⟨t, rfl⟩ := r; exact wpAny_pure (a := Value.bool false) (by simpa using h)
  | str _ => obtain ⟨t, rfl⟩ := r; exact wpAny_pure (a := Value.bool false) (by simpa using h)
  | byt _ => obtain ⟨t, rfl⟩ := r; exact wpAny_pure (a := Value.bool false) (by simpa using h)
  | flt _ => obtain ⟨t, rfl⟩ := r; exact wpAny_pure (a := Value.bool false) (by simpa using h)
  | ref _ => cases r; exact wpAny_pure (a := Value.bool false) (by simpa using h)
  | ty _ => cases r; exact wpAny_pure (a := Value.bool false) (by simpa using h)
theorem isn_bl_rel {prog : Program} {w : World} {A : Around} {E : Value → Shared → Prop} {s : Shared} {x : V} {v : Value} {b : Bool} {Q : Value → Shared → Prop} (r : RelV x v) (h : Q (.bool (!decide (x = .bl b))) s) : wpAny (model prog w) A (compareOp .IsNot v (.bool b)) Q E s := by
  cases x with
  | non => cases r; exact wpAny_pure (a := Value.bool true) (by simpa using h)
  | bl c =>
    cases r
    refine isnot_bool ?_
    rw [show (c != b) = !decide (V.bl c = .bl b) from congrArg not dec_bl.symm]
    exact h
  | int _ => obtain ⟨t, rfl⟩ := r; exact wpAny_pure (a := Value.bool true) (by simpa using h)
  | str _ => obtain ⟨t, rfl⟩ := r; exact wpAny_pure (a := Value.bool true) (by simpa using h)
  | byt _ => obtain ⟨t, rfl⟩ := r; exact wpAny_pure (a := Value.bool true) (by simpa using h)
  | flt _ => obtain ⟨t, rfl⟩ := r; exact wpAny_pure (a := Value.bool true) (by simpa using h)
  | ref _ => cases r; exact wpAny_pure (a := Value.bool true) (by simpa using h)
  | ty _ => cases r; exact wpAny_pure (a := Value.bool true) (by simpa using h)
inductive RIs (neg : Bool) : V → V → Hp → VK → Prop
  | non {x : V} {H : Hp} {Q : VK} : Q (.bl (if neg then !decide (x = .non) else decide (x = .non))) H → RIs neg x .non H Q
  | bl {x : V} {b : Bool} {H : Hp} {Q : VK} : Q (.bl (if neg then !decide (x = .bl b) else decide (x = .bl b))) H → RIs neg x (.bl b) H Q
section
variable {X : Cx}
theorem op_isU : OpR X (compareOp .Is) (RIs false) := by
  intro pins s σ H x y v u Q I rx ry h
  cases h with
  | non q => exact op_isN pins s σ H _ _ v u Q I rx ry ⟨rfl, q⟩
  | bl q =>
    cases ry
    exact is_bl_rel rx ⟨.bl _, H, I, rfl, q⟩
theorem op_isnU : OpR X (compareOp .IsNot) (RIs true) := by
  intro pins s σ H x y v u Q I rx ry h
  cases h with
  | non q => exact op_notN pins s σ H _ _ v u Q I rx ry ⟨rfl, q⟩
  | bl q =>
    cases ry
    exact isn_bl_rel rx ⟨.bl _, H, I, rfl, q⟩
end
/-! ### len -/
inductive RLen : List V → Hp → VK → Prop
  | str {z : Str} {H : Hp} {Q : VK} : z.length ≤ sizeLine → Q (.int z.length) H → RLen [.str z] H Q
  | lst {p : Addr} {xs : List V} {H : Hp} {Q : VK} : H p = some (.lst xs) → Q (.int xs.length) H → RLen [.ref p] H Q
  | tup {p : Addr} {xs : List V} {H : Hp} {Q : VK} : H p = some (.tup xs) → Q (.int xs.length) H → RLen [.ref p] H Q
  | dict {p : Addr} {xs : List (Key × V)} {H : Hp} {Q : VK} : H p = some (.dK xs) → Q (.int xs.length) H → RLen [.ref p] H Q
  | frz {p : Addr} {o : Obj} {xs : List V} {H : Hp} {Q : VK} : H p = some (.frz o (.lst xs)) → Q (.int xs.length) H → RLen [.ref p] H Q
theorem call_lenU {X : Cx} : CallR X (.builtin "len") RLen := by
  intro pins s σ H xs us Q I r h
  cases h with
  | str h1 q => exact call_len_str pins s σ H _ us Q I r ⟨_, rfl, h1, q⟩
  | lst h1 q => exact call_len_seq pins s σ H _ us Q I r ⟨_, _, rfl, .inl (SqL.of h1), q⟩
  | tup h1 q => exact call_len_seq pins s σ H _ us Q I r ⟨_, _, rfl, .inr (SqT.of h1), q⟩
  | dict h1 q => exact call_lenD pins s σ H _ us Q I r ⟨_, _, rfl, h1, q⟩
  | frz h1 q => exact call_len_seq pins s σ H _ us Q I r ⟨_, _, rfl, .inl (.inl (.inr ⟨_, h1⟩)), q⟩
/-! ### slices -/
inductive RSl : V → Option Int → Option Int → Hp → VK → Prop
  | str {z : Str} {lo hi : Option Int} {H : Hp} {Q : VK} : z.length ≤ sizeLine → Q (.str (cutS z lo hi)) H → RSl (.str z) lo hi H Q
  | lst {p : Addr} {xs : List V} {lo hi : Option Int} {H : Hp} {Q : VK} : H p = some (.lst xs) → AlD (.lst (cutV xs lo hi)) H Q → RSl (.ref p) lo hi H Q
inductive RSlM : V → Option Int → Option Int → Hp → VK → Prop
  | lst {p : Addr} {xs : List V} {lo hi : Option Int} {H : Hp} {Q : VK} : H p = some (.lst xs) → AlM (.lst (cutV xs lo hi)) H Q → RSlM (.ref p) lo hi H Q
section
variable {X : Cx}
theorem sl_U : SlR X (RSl) := by
  intro pins s σ H x v lo hi vl vu sl Q I rx hs h1 h2 h
  cases h with
  | str hz q => exact sl_str pins s σ H _ v _ _ vl vu sl Q I rx hs h1 h2 ⟨_, rfl, hz, q⟩
  | lst hl q => exact sl_list pins s σ H _ v _ _ vl vu sl Q I rx hs h1 h2 ⟨_, _, rfl, SqL.of hl, q⟩
theorem sl_UM : SlR X (RSlM) := by
  intro pins s σ H x v lo hi vl vu sl Q I rx hs h1 h2 h
  cases h with
  | lst hl q => exact sl_list pins s σ H _ v _ _ vl vu sl Q I rx hs h1 h2 ⟨_, _, rfl, SqL.of hl, q⟩
theorem pe_lstM {es : List Expr} {t : TA} {pos : Pos} (h : PA X es t) : PE X (.List es pos) (tLstM t) := pe_lst h
end
/-! ### numbers -/
theorem cdiv_of {i j : Int} (h0 : 0 < j) (h1 : j < 2 ^ 100) : CDivW i j := wide_div (b := 100) h0 (by omega) (by decide) (by decide)
theorem mod_let {i j : Int} {H : Hp} {Q : VK} (h : 0 < j) (k : ∀ r, 0 ≤ r → r < j → Q (.int r) H) : rI (fun _ j => 0 < j) (fun i j => .int (i % j)) (.int i) (.int j) H Q :=
  ⟨i, j, rfl, rfl, h, k _ (Int.emod_nonneg _ (by omega)) (Int.emod_lt_of_pos _ h)⟩
theorem pow_ok {r c z d : Int} (h1 : 0 ≤ r) (h2 : r < 2147483648) (h3 : 0 ≤ c) (h4 : c ≤ 200000) (h5 : 0 ≤ z) (h6 : z ≤ 1000001) (h7 : 0 ≤ d) (h8 : d ≤ 1000) : (r / 8 + c * z * z + d).natAbs < 2 ^ 64 := by
  have a1 : z * z ≤ 1000001 * 1000001 := Int.mul_le_mul h6 h6 h5 (by omega)
  have a2 : 0 ≤ z * z := Int.mul_nonneg h5 h5
  have a3 : c * (z * z) ≤ 200000 * (1000001 * 1000001) := Int.mul_le_mul h4 a1 a2 (by omega)
  have a4 : 0 ≤ c * (z * z) := Int.mul_nonneg h3 a2
  rw [Int.mul_assoc]
  omega
/-! ### subscripts -/
inductive RIx : V → V → Hp → VK → Prop
  | l {p : Addr} {xs : List V} {i : Int} {v : V} {H : Hp} {Q : VK} : H p = some (.lst xs) → atI xs i = some v → Q v H → RIx (.ref p) (.int i) H Q
  | t {p : Addr} {xs : List V} {i : Int} {v : V} {H : Hp} {Q : VK} : H p = some (.tup xs) → atI xs i = some v → Q v H → RIx (.ref p) (.int i) H Q
  | f {p : Addr} {o : Obj} {xs : List V} {i : Int} {v : V} {H : Hp} {Q : VK} : H p = some (.frz o (.lst xs)) → atI xs i = some v → Q v H → RIx (.ref p) (.int i) H Q
  | s {z : Str} {i : Int} {c : Nat} {H : Hp} {Q : VK} : z.length ≤ sizeLine → atI z.cps.toList i = some c → Q (.str ⟨#[c]⟩) H → RIx (.str z) (.int i) H Q
theorem ix_U {X : Cx} : IxR X RIx := by
  intro a b pins s σ H x y v u Q I rx ry h hs
  cases h with
  | l e1 e2 q => exact ix_seq a b pins s σ H _ _ v u Q I rx ry (.inl ⟨_, _, _, _, rfl, rfl, SqL.of e1, e2, q⟩) hs
  | t e1 e2 q => exact ix_seq a b pins s σ H _ _ v u Q I rx ry (.inr (.inl ⟨_, _, _, _, rfl, rfl, SqT.of e1, e2, q⟩)) hs
  | f e1 e2 q => exact ix_seq a b pins s σ H _ _ v u Q I rx ry (.inl ⟨_, _, _, _, rfl, rfl, .inl (.inr ⟨_, e1⟩), e2, q⟩) hs
  | s e1 e2 q => exact ix_seq a b pins s σ H _ _ v u Q I rx ry (.inr (.inr ⟨_, _, _, rfl, rfl, e1, e2, q⟩)) hs
theorem setL {p : Addr} {xs : List V} {k : Int} {j : Nat} {v : V} {H : Hp} {Q : Hp → Prop} (h : H p = some (.lst xs)) (e : ixN xs.length k = some j) (q : Q (upd H p (.lst (xs.set j v)))) : rSetL (.ref p) (.int k) v H Q := ⟨p, xs, k, j, rfl, rfl, h, e, q⟩
theorem set_c {p : Addr} {xs : List V} {R : List (Addr × HO)} {k : Int} {j : Nat} {v : V} {H D : Hp} {Q : Hp → Prop} (hi : HI H ((p, .lst xs) :: R) D) (e : ixN xs.length k = some j) (q : ∀ H', HI H' ((p, .lst (xs.set j v)) :: R) D → Q H') : rSetL (.ref p) (.int k) v H Q :=
  setL (hi.get (List.mem_cons_self ..)) e (q _ hi.set)
theorem set_c2 {p : Addr} {xs : List V} {y : Addr × HO} {R : List (Addr × HO)} {k : Int} {j : Nat} {v : V} {H D : Hp} {Q : Hp → Prop} (hi : HI H (y :: (p, .lst xs) :: R) D) (e : ixN xs.length k = some j) (q : ∀ H', HI H' (y :: (p, .lst (xs.set j v)) :: R) D → Q H') : rSetL (.ref p) (.int k) v H Q :=
  setL (hi.get (List.mem_cons_of_mem _ (List.mem_cons_self ..))) e (q _ hi.set2)
theorem set_c3 {p : Addr} {xs : List V} {y z : Addr × HO} {R : List (Addr × HO)} {k : Int} {j : Nat} {v : V} {H D : Hp} {Q : Hp → Prop} (hi : HI H (y :: z :: (p, .lst xs) :: R) D) (e : ixN xs.length k = some j) (q : ∀ H', HI H' (y :: z :: (p, .lst (xs.set j v)) :: R) D → Q H') : rSetL (.ref p) (.int k) v H Q :=
  setL (hi.get (List.mem_cons_of_mem _ (List.mem_cons_of_mem _ (List.mem_cons_self ..)))) e (q _ hi.set3)
end Wk

set_option maxRecDepth 100000
set_option maxHeartbeats 4000000
/-! Loops and comprehensions over the heap in two parts. -/
namespace Wk
open PySem PySem.Spec PyProof.Rows L2
abbrev Cells := List (Addr × HO)
/-- what a for asks of its walk -/
def ForK (J : It) (g : TG) (tb : TS) (D : Ends) (σ : L2.St) (H : Hp) : Prop := ∃ W : Nat → Nat → L2.St → Hp → Prop, (∃ m, W 0 m σ H) ∧ ∀ i m σ H, W i m σ H →
  (J.stop i H ∧ D.nx σ H) ∨ (J.go i H ∧ ∃ N : L2.St → Hp → Prop, (∀ σ' H', N σ' H' → ∃ m', m' < m ∧ W (i + 1) m' σ' H') ∧ ∀ x H', J.yld i H x H' → g x σ H' fun σ2 H2 => tb { D with nx := N, ct := N, bk := D.nx } σ2 H2)
/-- what a comprehension asks of its walk -/
def LcK (J : It) (g : TG) (tt : TT) (te : TE) (vs : List Nat) (σ : L2.St) (H1 : Hp) (Q : VK) : Prop := ∀ D, H1 D = none → ∃ W : Nat → Nat → Hp → Prop, (∃ m, W 0 m (upd H1 D (.lst []))) ∧ ∀ i m H, W i m H →
  (J.stop i H ∧ Q (.ref D) H) ∨ (J.go i H ∧ ∃ Nx : Hp → Prop, (∀ H', Nx H' → ∃ m', m' < m ∧ W (i + 1) m' H') ∧ ∀ x H', J.yld i H x H' → g x (wipe σ vs) H' fun σ2 H2 => wipe σ2 vs = wipe σ vs ∧ tt σ2 H2 fun b H3 =>
    if b = true then te σ2 H3 fun y H4 => ∃ acc, H4 D = some (.lst acc) ∧ acc.length < sizeLine ∧ Nx (upd H4 D (.lst (acc ++ [y]))) else Nx H3)
section
variable {K : PySem.W.Frag} {σ : L2.St} {H : Hp} {Q : VK} {D : Ends} {ta : TA} {te tl : TE} {tt : TT} {g : TG} {tb : TS} {wi : TI} {vs : List Nat} {R : It → Hp → Prop}
theorem st_for (h : wi σ H fun J H1 => ForK J g tb D σ H1) : tFor wi g tb D σ H := h
theorem se_lc (h : wi σ H fun J H1 => LcK J g tt te vs σ H1 Q) : tLc wi g tt te vs σ H Q := h
theorem it_rng1 (h : ta σ H fun vs H1 => ∃ j : Int, vs = [.int j] ∧ -(2 ^ 62) ≤ j ∧ j < 2 ^ 62 ∧ R (Itr 0 j.toNat) H1) : iRng1 ta σ H R := h
theorem it_rng2 (h : ta σ H fun vs H1 => ∃ i j : Int, vs = [.int i, .int j] ∧ (-(2 ^ 62) ≤ i ∧ i < 2 ^ 62 ∧ -(2 ^ 62) ≤ j ∧ j < 2 ^ 62) ∧ R (Itr i (j - i).toNat) H1) : iRng2 ta σ H R := h
theorem it_list (h : tl σ H fun x H1 => ∃ a, x = .ref a ∧ (∃ xs, SqL K H1 a xs) ∧ R (Itl K a) H1) : iList K tl σ H R := h
theorem it_str (h : tl σ H fun v H1 => ∃ x, v = .str x ∧ R (Its x) H1) : iStr tl σ H R := h
theorem rng1_mk {n : Int} {P : Int → Prop} (h1 : -(2 ^ 62) ≤ n) (h2 : n < 2 ^ 62) (q : P n) : ∃ j : Int, [V.int n] = [.int j] ∧ -(2 ^ 62) ≤ j ∧ j < 2 ^ 62 ∧ P j := ⟨n, rfl, h1, h2, q⟩
theorem rng2_mk {a b : Int} {P : Int → Int → Prop} (h1 : -(2 ^ 62) ≤ a ∧ a < 2 ^ 62 ∧ -(2 ^ 62) ≤ b ∧ b < 2 ^ 62) (q : P a b) : ∃ i j : Int, [V.int a, V.int b] = [.int i, .int j] ∧ (-(2 ^ 62) ≤ i ∧ i < 2 ^ 62 ∧ -(2 ^ 62) ≤ j ∧ j < 2 ^ 62) ∧ P i j := ⟨a, b, rfl, h1, q⟩
theorem list_mk {a : Addr} {xs : List V} {P : Addr → Prop} (h : H a = some (.lst xs)) (q : P a) : ∃ b, V.ref a = .ref b ∧ (∃ xs, SqL K H b xs) ∧ P b := ⟨a, rfl, ⟨xs, SqL.of h⟩, q⟩
theorem strI_mk {z : Str} {P : Str → Prop} (q : P z) : ∃ x, V.str z = .str x ∧ P x := ⟨z, rfl, q⟩
theorem st_yes {QB : Bool → Hp → Prop} (h : QB true H) : tYes σ H QB := h
end
/-- the next turn -/
def NX (I : Nat → L2.St → Cells → Hp → Prop) (i : Nat) : L2.St → Hp → Prop := fun σ' H' => ∃ R' D', HI H' R' D' ∧ I i σ' R' D'
section
variable {J : It} {n : Nat} {G : Hp → Prop} {Y : Nat → Hp → V → Hp → Prop} {g : TG} {tb : TS} {D : Ends} {σ : L2.St} {H D0 : Hp} {R0 : Cells} {tt : TT} {te : TE} {vs : List Nat} {Q : VK}
theorem for_hi (w : Walk J n G Y) (I : Nat → L2.St → Cells → Hp → Prop) (hi : HI H R0 D0) (h0 : I 0 σ R0 D0) (hG : ∀ i σ R Dd H, i ≤ n → HI H R Dd → I i σ R Dd → G H)
    (hs : ∀ i x σ R Dd H H', i < n → HI H R Dd → I i σ R Dd → Y i H x H' → g x σ H' fun σ2 H2 => tb { D with nx := NX I (i + 1), ct := NX I (i + 1), bk := D.nx } σ2 H2) (hd : ∀ σ R Dd H, HI H R Dd → I n σ R Dd → D.nx σ H) : ForK J g tb D σ H :=
  for_it w (NX I) ⟨R0, D0, hi, h0⟩ (fun i σ H hn ⟨R, Dd, a, b⟩ => hG i σ R Dd H hn a b) (fun i x σ H H' hn ⟨R, Dd, a, b⟩ y => hs i x σ R Dd H H' hn a b y) (fun σ H ⟨R, Dd, a, b⟩ => hd σ R Dd H a b)
/-- over a range -/
theorem for_rng {lo : Int} (I : Nat → L2.St → Cells → Hp → Prop) (hi : HI H R0 D0) (h0 : I 0 σ R0 D0)
    (hs : ∀ (i : Nat) σ R Dd H, i < n → HI H R Dd → I i σ R Dd → g (.int (lo + i)) σ H fun σ2 H2 => tb { D with nx := NX I (i + 1), ct := NX I (i + 1), bk := D.nx } σ2 H2) (hd : ∀ σ R Dd H, HI H R Dd → I n σ R Dd → D.nx σ H) : ForK (Itr lo n) g tb D σ H :=
  for_hi walk_range I hi h0 (fun _ _ _ _ _ _ _ _ => trivial) (fun i x σ R Dd H H' hn a b y => by
    obtain ⟨rfl, rfl⟩ := y
    exact hs i σ R Dd H' hn a b) hd
/-- over a list that is data -/
theorem for_lst {K : PySem.W.Frag} {a : Addr} {xs : List V} (I : Nat → L2.St → Cells → Hp → Prop) (hi : HI H R0 D0) (h0 : I 0 σ R0 D0) (hl : ∀ i σ R Dd, I i σ R Dd → Dd a = some (.lst xs))
    (hs : ∀ (i : Nat) x σ R Dd H, xs[i]? = some x → HI H R Dd → I i σ R Dd → g x σ H fun σ2 H2 => tb { D with nx := NX I (i + 1), ct := NX I (i + 1), bk := D.nx } σ2 H2) (hd : ∀ σ R Dd H, HI H R Dd → I xs.length σ R Dd → D.nx σ H) : ForK (Itl K a) g tb D σ H :=
  for_hi walk_list I hi h0 (fun i σ R Dd H _ q p => SqL.of (q.dat (hl i σ R Dd p))) (fun i x σ R Dd H H' hn a b y => by
    obtain ⟨rfl, y⟩ := y
    exact hs i x σ R Dd H' y a b) hd
/-- over a text -/
theorem for_str {z : Str} (I : Nat → L2.St → Cells → Hp → Prop) (hi : HI H R0 D0) (h0 : I 0 σ R0 D0)
    (hs : ∀ (i : Nat) c σ R Dd H, z.cps[i]? = some c → HI H R Dd → I i σ R Dd → g (.str ⟨#[c]⟩) σ H fun σ2 H2 => tb { D with nx := NX I (i + 1), ct := NX I (i + 1), bk := D.nx } σ2 H2) (hd : ∀ σ R Dd H, HI H R Dd → I z.cps.size σ R Dd → D.nx σ H) : ForK (Its z) g tb D σ H :=
  for_hi walk_str I hi h0 (fun _ _ _ _ _ _ _ _ => trivial) (fun i x σ R Dd H H' hn a b y => by
    obtain ⟨rfl, c, y, rfl⟩ := y
    exact hs i c σ R Dd H' y a b) hd
/-- a comprehension's word: its list is the first cell -/
def PW' (L : Addr) (I : Nat → List V → Cells → Hp → Prop) (i : Nat) (H : Hp) : Prop := ∃ acc R Dd, HI H ((L, .lst acc) :: R) Dd ∧ I i acc R Dd ∧ acc.length ≤ i
/-- a turn's end: one more -/
def LE (L : Addr) (I : Nat → List V → Cells → Hp → Prop) (i : Nat) : VK := fun y H => ∃ acc, H L = some (.lst acc) ∧ acc.length < sizeLine ∧ PW' L I i (upd H L (.lst (acc ++ [y])))
theorem le_mk {L : Addr} {I : Nat → List V → Cells → Hp → Prop} {i : Nat} {acc : List V} {R : Cells} {Dd H : Hp} {y : V} (h : HI H ((L, .lst acc) :: R) Dd) (q : I (i + 1) (acc ++ [y]) R Dd) (hl : acc.length ≤ i) (hn : i < 1000000) : LE L I (i + 1) y H :=
  ⟨acc, h.get (List.mem_cons_self ..), by rw [sizeLine_eq]; omega, acc ++ [y], R, Dd, h.set, q, by rw [List.length_append]; simpa using hl⟩
theorem lx_mk {L : Addr} {I : Nat → List V → Cells → Hp → Prop} {i : Nat} {acc : List V} {R : Cells} {Dd H : Hp} (h : HI H ((L, .lst acc) :: R) Dd) (q : I (i + 1) acc R Dd) (hl : acc.length ≤ i) : PW' L I (i + 1) H := ⟨acc, R, Dd, h, q, by omega⟩
theorem lc_hi (w : Walk J n G Y) (I : Nat → List V → Cells → Hp → Prop) (hi : HI H R0 D0) (h0 : I 0 [] R0 D0) (hG : ∀ i acc R Dd H, i ≤ n → HI H R Dd → I i acc R Dd → G H)
    (hs : ∀ L i acc x R Dd H H', i < n → HI H ((L, .lst acc) :: R) Dd → I i acc R Dd → acc.length ≤ i → Y i H x H' → g x (wipe σ vs) H' fun σ2 H2 => wipe σ2 vs = wipe σ vs ∧ tt σ2 H2 fun b H3 => if b = true then te σ2 H3 (LE L I (i + 1)) else PW' L I (i + 1) H3)
    (hd : ∀ L acc R Dd H, HI H ((L, .lst acc) :: R) Dd → I n acc R Dd → acc.length ≤ n → Q (.ref L) H) : LcK J g tt te vs σ H Q := fun L hL =>
  lc_it w (PW' L I) ⟨[], R0, D0, hi.new hL, h0, Nat.le_refl _⟩ (fun i H' hn ⟨acc, R, Dd, a, b, _⟩ => hG i acc R Dd H' hn a.drop b)
    (fun i x H1 H1' hn1 ⟨acc, R, Dd, a, b, c⟩ y => hs L i acc x R Dd H1 H1' hn1 a b c y) (fun H' ⟨acc, R, Dd, a, b, c⟩ => hd L acc R Dd H' a b c)
theorem lc_rng {lo : Int} (I : Nat → List V → Cells → Hp → Prop) (hi : HI H R0 D0) (h0 : I 0 [] R0 D0)
    (hs : ∀ L i acc R Dd H, i < n → HI H ((L, .lst acc) :: R) Dd → I i acc R Dd → acc.length ≤ i → g (.int (lo + (i : Nat))) (wipe σ vs) H fun σ2 H2 => wipe σ2 vs = wipe σ vs ∧ tt σ2 H2 fun b H3 => if b = true then te σ2 H3 (LE L I (i + 1)) else PW' L I (i + 1) H3)
    (hd : ∀ L acc R Dd H, HI H ((L, .lst acc) :: R) Dd → I n acc R Dd → acc.length ≤ n → Q (.ref L) H) : LcK (Itr lo n) g tt te vs σ H Q :=
  lc_hi walk_range I hi h0 (fun _ _ _ _ _ _ _ _ => trivial) (fun L i acc x R Dd H H' hn a b c y => by
    obtain ⟨rfl, rfl⟩ := y
    exact hs L i acc R Dd H' hn a b c) hd
theorem lc_lst {K : PySem.W.Frag} {a : Addr} {xs : List V} (I : Nat → List V → Cells → Hp → Prop) (hi : HI H R0 D0) (h0 : I 0 [] R0 D0) (hl : ∀ i acc R Dd, I i acc R Dd → Dd a = some (.lst xs))
    (hs : ∀ L i acc x R Dd H, xs[i]? = some x → HI H ((L, .lst acc) :: R) Dd → I i acc R Dd → acc.length ≤ i → g x (wipe σ vs) H fun σ2 H2 => wipe σ2 vs = wipe σ vs ∧ tt σ2 H2 fun b H3 => if b = true then te σ2 H3 (LE L I (i + 1)) else PW' L I (i + 1) H3)
    (hd : ∀ L acc R Dd H, HI H ((L, .lst acc) :: R) Dd → I xs.length acc R Dd → acc.length ≤ xs.length → Q (.ref L) H) : LcK (Itl K a) g tt te vs σ H Q :=
  lc_hi walk_list I hi h0 (fun i acc R Dd H _ q p => SqL.of (q.dat (hl i acc R Dd p))) (fun L i acc x R Dd H H' hn a b c y => by
    obtain ⟨rfl, y⟩ := y
    exact hs L i acc x R Dd H' y a b c) hd
theorem lc_str {z : Str} (I : Nat → List V → Cells → Hp → Prop) (hi : HI H R0 D0) (h0 : I 0 [] R0 D0)
    (hs : ∀ L i acc c R Dd H, z.cps[i]? = some c → HI H ((L, .lst acc) :: R) Dd → I i acc R Dd → acc.length ≤ i → g (.str ⟨#[c]⟩) (wipe σ vs) H fun σ2 H2 => wipe σ2 vs = wipe σ vs ∧ tt σ2 H2 fun b H3 => if b = true then te σ2 H3 (LE L I (i + 1)) else PW' L I (i + 1) H3)
    (hd : ∀ L acc R Dd H, HI H ((L, .lst acc) :: R) Dd → I z.cps.size acc R Dd → acc.length ≤ z.cps.size → Q (.ref L) H) : LcK (Its z) g tt te vs σ H Q :=
  lc_hi walk_str I hi h0 (fun _ _ _ _ _ _ _ _ => trivial) (fun L i acc x R Dd H H' hn a b c y => by
    obtain ⟨rfl, d, y, rfl⟩ := y
    exact hs L i acc d R Dd H' y a b c) hd
end
end Wk

set_option maxRecDepth 100000
set_option maxHeartbeats 4000000
/-! Own exceptions with a field found: made, held as values, asked by isinstance, raised. -/
namespace Wk
open PySem PySem.Spec PyProof.Rows L2
/-- the base class at B -/
structure ExB (K : PySem.W.Frag) (mg : Str → Option Value) (n : Str) (B : Addr) : Prop where
  g : mg n = some (.ref B)
  rd : PySem.W.readsIn K B (.type "type") = true
  sp : PySem.W.specialIn K (.ref B) "__getattribute__" = some (some (.builtin "type.__getattribute__"))
  vV : PySem.W.findCls K (.ref B) (.type "type") "__init__" = some (.val (.builtin "ValueError.__init__"))
/-- an own exception class at C, its __init__ at fI -/
structure ExK (K : PySem.W.Frag) (mg : Str → Option Value) (n : Str) (C fI : Addr) : Prop where
  g : mg n = some (.ref C)
  T : OexC K C
  E : ExcC K C
  iC : PySem.W.findIn K (.ref C) "__init__" = some (some (.ref fI))
  tI : PySem.W.typeIn K (.ref fI) = some (.type "function")
  no : PySem.W.findIn K (.ref C) "found" = some none
/-! ### the facts, by looking -/
def isVal (o : Option PySem.W.CFound) (n : String) : Bool := match o with
  | some (.val (.builtin x)) => x == n
  | _ => false
theorem isVal_ok {o : Option PySem.W.CFound} {n : String} (h : isVal o n = true) : o = some (.val (.builtin n)) := by
  unfold isVal at h
  split at h
  · rw [beq_iff_eq.mp h]
  · cases h
def exbB (n : Str) (K : PySem.W.Frag) : Bool := PySem.W.readsIn K (He.ga K n) (.type "type") && (He.eqO (PySem.W.specialIn K (.ref (He.ga K n)) "__getattribute__") (some (some (.builtin "type.__getattribute__"))) && isVal (PySem.W.findCls K (.ref (He.ga K n)) (.type "type") "__init__") "ValueError.__init__")
def oexB (K : PySem.W.Frag) (C : Addr) : Bool := match K.lookup C with
  | some ⟨.type "type", _, .cls cd, sl⟩ => (match cd.mro, sl.toList with
    | .ref C' :: bm, [_, _, _, _, some (.builtin n), _] => C' == C && (n == "ValueError.__new__" && (!cd.hasDel && (cd.hasDict && PySem.HandSPX.refsVE bm)))
    | _, _ => false)
  | _ => false
def eqB (a b : Option Bool) : Bool := decide (a = b)
def eqV (a b : Option Value) : Bool := decide (a = b)
def exkB (n : Str) (K : PySem.W.Frag) : Bool :=
  let C := He.ga K n
  oexB K C && (He.eqO (PySem.W.findIn K (.ref C) "__setattr__") (some (some (.builtin "object.__setattr__"))) && (eqB (PySem.W.subIn K (.ref C) (.type "BaseException")) (some true) && (eqV (PySem.W.typeIn K (.ref C)) (some (.type "type")) && (PySem.W.keepIn K (.ref C) &&
  (He.eqO (PySem.W.findIn K (.ref C) "__getattribute__") (some (some (.builtin "BaseException.__getattribute__"))) && (He.eqO (PySem.W.findIn K (.ref C) "__getattr__") (some none) && (PySem.W.hasDictIn K C &&
  (He.eqO (PySem.W.findIn K (.ref C) "__class__") (some (some (.builtin "object.__class__"))) && (He.eqO (PySem.W.specialIn K (.builtin "object.__class__") "__get__") (some (some (.builtin "getset_descriptor.__get__"))) && (eqB (PySem.W.takesIn K (.builtin "object.__class__")) (some true) && (eqB (PySem.W.mroIn K C (.type "object")) (some true) &&
  (He.eqO (PySem.W.findIn K (.ref C) "__init__") (some (some (.ref (He.ma K C "__init__")))) && (eqV (PySem.W.typeIn K (.ref (He.ma K C "__init__"))) (some (.type "function")) && He.eqO (PySem.W.findIn K (.ref C) "found") (some none))))))))))))))
section
variable {K : PySem.W.Frag} {h : Heap} {mg : Str → Option Value}
theorem oexB_ok {C : Addr} (q : oexB K C = true) : ∃ nm q N bs bm sn sub ab col dd k0 k1 k2 k3 k5, K.lookup C = some (excClassObj nm q C N bs bm true sn sub ab col dd k0 k1 k2 k3 k5 "ValueError.__new__") ∧ PySem.HandSPX.refsVE bm = true := by
  unfold oexB at q
  split at q
  · rename_i dd cd sl ho
    split at q
    · rename_i C' bm k0 k1 k2 k3 n k5 hm hs
      simp only [Bool.and_eq_true, beq_iff_eq, Bool.not_eq_true'] at q
      obtain ⟨rfl, rfl, hdel, hd, ht⟩ := q
      obtain ⟨nm, bs, mro, ns, qn, hdc, sn, sub, ab, col, del⟩ := cd
      dsimp only at hm hdel hd
      subst hm hdel hd
      have hsl : sl = #[k0, k1, k2, k3, some (.builtin "ValueError.__new__"), k5] := by
        obtain ⟨l⟩ := sl
        simp only at hs
        rw [hs]
      subst hsl
      exact ⟨nm, qn, ns, bs, bm, sn, sub, ab, col, dd, k0, k1, k2, k3, k5, ho, ht⟩
    · cases q
  · cases q
theorem exb_ok (X : K.In h) (G : h.Ns mainGlobals mg) {n : Str} (c1 : (He.Fa.glo n).ok K = true) (c : exbB n K = true) : ExB K mg n (He.ga K n) := by
  obtain ⟨a, c⟩ := He.ba c
  obtain ⟨b, d⟩ := He.ba c
  exact ⟨He.glo_ok X G c1, a, He.eqO_ok b, isVal_ok d⟩
theorem exk_ok (X : K.In h) (G : h.Ns mainGlobals mg) {n : Str} (c1 : (He.Fa.glo n).ok K = true) (c : exkB n K = true) : ExK K mg n (He.ga K n) (He.ma K (He.ga K n) "__init__") := by
  obtain ⟨a1, c⟩ := He.ba c
  obtain ⟨a2, c⟩ := He.ba c
  obtain ⟨a3, c⟩ := He.ba c
  obtain ⟨a4, c⟩ := He.ba c
  obtain ⟨a5, c⟩ := He.ba c
  obtain ⟨a6, c⟩ := He.ba c
  obtain ⟨a7, c⟩ := He.ba c
  obtain ⟨a8, c⟩ := He.ba c
  obtain ⟨a9, c⟩ := He.ba c
  obtain ⟨a10, c⟩ := He.ba c
  obtain ⟨a11, c⟩ := He.ba c
  obtain ⟨a12, c⟩ := He.ba c
  obtain ⟨a13, c⟩ := He.ba c
  obtain ⟨a14, a15⟩ := He.ba c
  exact ⟨He.glo_ok X G c1, ⟨oexB_ok a1, He.eqO_ok a2, of_decide_eq_true a3, of_decide_eq_true a4, a5⟩, ⟨He.eqO_ok a6, He.eqO_ok a7, of_decide_eq_true a3, a8, He.eqO_ok a9, He.eqO_ok a10, of_decide_eq_true a11, of_decide_eq_true a12⟩, He.eqO_ok a13, of_decide_eq_true a14, He.eqO_ok a15⟩
end
/-! ### __init__ -/
section
variable {X : Cx} {o e : Expr} {es : List Expr} {to te : TE} {ta : TA} {f : Str} {p p' p1 p2 pos : Pos} {C fI B : Addr} {n x : Str}
/-- B.__init__(self, ..), B an own class without an __init__ of its own -/
theorem pe_binit {pl : Sem Bool} (T : ExB X.K X.mg n B) (hg : Gl X n) (ha : PA X (e :: es) ta) (hdb : (n == ("__debug__" : Str)) = false := by decide)
    (hc : eval (.Call (.Attribute (.Name n p1) "__init__" p2) (e :: es) [] pos) X.env = (do
      let ov ← eval (.Name n p1) X.env
      standAt p2.atName
      let (f, first) ← holding [ov] (getMethod ov "__init__" pl)
      callWith pos f first (backTo pos (starEach (e :: es) X.env)) (backToKw pos (keywordEach [] X.env))) := by rfl)
    (he : starEach (e :: es) X.env = (false, eval e X.env) :: starEach es X.env := by rfl) (hpl : (backTo pos (starEach es X.env)).any (·.1) = false := by rfl) :
    PE X (.Call (.Attribute (.Name n p1) "__init__" p2) (e :: es) [] pos) (tVeI X.K ta) := by
  refine ⟨fun pins s σ H Q I h => ?_⟩
  refine PySem.W.methodCall_KW (ld_glob I hg T.g ?_ hdb) hc
  refine PySem.W.method_cls I.kIn T.sp ?_
  refine PySem.W.cls_value I.kIn T.rd T.vV (by decide +kernel) ?_
  show wpAny _ _ (callWith pos (Value.builtin "ValueError.__init__") [] (backTo pos (starEach (e :: es) X.env)) []) _ _ _
  refine PyProof.Rows.callWith_method1 (thn (ha.run pos pins _ σ H _ (I.tok _) h) fun us s1 ⟨vs, H1, I1, r1, a, C, ws, ev, hl, T, ea, q⟩ => ?_) he hpl
  subst ev
  cases r1 with
  | @cons _ u0 _ ur ra rw' =>
    obtain rfl : u0 = Value.ref a := ra
    have hlen : ur.length ≤ sizeLine := by
      rw [← Paired.length rw', sizeLine_eq]
      omega
    exact oinit_ok T I1 ea hlen fun s' J => ⟨.non, H1, J, rfl, q⟩
end
/-- __init__(self, found) -/
def spInit (K : PySem.W.Frag) (C : Addr) : Sp := fun vs H Q _ => ∃ (a : Addr) (v : V), vs = [.ref a, v] ∧ OexC K C ∧ PySem.W.findIn K (.ref C) "found" = some none ∧ H a = some (exo a C none) ∧
  ∀ d, H d = none → d ≠ a → Q .non (upd (upd H d (exd d [(("found" : Str), v)])) a (exo a C (some d)))
theorem spInit_len {K : PySem.W.Frag} {C : Addr} {vs : List V} {H : Hp} {Q : VK} {E : XK} (h : spInit K C vs H Q E) : vs.length = (["self", "found"] : List Str).length := by
  obtain ⟨a, v, rfl, _⟩ := h
  rfl
theorem init_plain {K : PySem.W.Frag} {C : Addr} {z : Str} {vs : List V} {H : Hp} {Q : VK} {E : XK} (h : spInit K C vs H Q E) :
    tSeq (tDrop (tVeI K (tCons (tVar 0) (tCons (tC (.str z)) tNil)))) (tOst K "found" (tVar 0) (tVar 1)) { nx := fun _ H' => Q .non H', rt := Q } (start ["self", "found"] vs) H := by
  obtain ⟨a, v, rfl, T, no, ea, k⟩ := h
  exact ⟨_, rfl, a, C, [.str z], rfl, (show 1 ≤ 1000 by decide), T, ea, ⟨_, rfl, _, rfl, a, C, rfl, T, no, .inl ⟨ea, k⟩⟩⟩
/-! ### an exception as a value -/
/-- C(e) -/
def tMkE (C : Addr) (ta : TA) : TE := fun σ H Q => ta σ H fun vs H1 => ∃ v, vs = [v] ∧ ∀ a d, H1 a = none → H1 d = none → d ≠ a → Q (.ref a) (upd (upd H1 d (exd d [(("found" : Str), v)])) a (exo a C (some d)))
theorem upd_swap {H : Hp} {a b : Addr} {o u : HO} (h : a ≠ b) : upd (upd H a o) b u = upd (upd H b u) a o := by
  funext c
  by_cases h1 : c = a
  · subst h1
    rw [upd_ne h, upd_same, upd_same]
  · by_cases h2 : c = b
    · subst h2
      rw [upd_same, upd_ne h1, upd_same]
    · rw [upd_ne h2, upd_ne h1, upd_ne h1, upd_ne h2]
theorem upd_end {H : Hp} {a d : Addr} {o o' u : HO} (h : d ≠ a) : upd (upd (upd H a o) d u) a o' = upd (upd H d u) a o' := by
  rw [upd_swap h.symm, upd_upd]
/-- what init leaves, seen from the maker -/
theorem init_use {K : PySem.W.Frag} {mg : Str → Option Value} {n : Str} {C fI a : Addr} {v : V} {H : Hp} {Q : VK} {E : XK} (T : ExK K mg n C fI) (h : ∀ d, H d = none → d ≠ a → Q .non (upd (upd H d (exd d [(("found" : Str), v)])) a (exo a C (some d)))) :
    spInit K C [.ref a, v] (upd H a (exo a C none)) Q E :=
  ⟨a, v, rfl, T.T, T.no, upd_same, fun d hd ne => by
    rw [upd_end ne]
    rw [upd_ne ne] at hd
    exact h d hd ne⟩
section
variable {X : Cx} {e : Expr} {te : TE} {ta : TA} {p pos : Pos} {C fI : Addr} {n : Str} {k : Nat}
/-- the call itself -/
theorem run_exc {pins : List (Addr × Obj)} {σ : L2.St} {H1 : Hp} {s1 : Shared} {v : V} {u : Value} {Q : Value → Shared → Prop} (T : ExK X.K X.mg n C fI) (F1 : FnOk X.prog X.w X.K X.mg X.base CX0 k fI (fdOf X.K fI) ["self", "found"] (spInit X.K C)) (hb : Binds X.K (fdOf X.K fI) ["self", "found"] []) (hr : Room (k + 1) X.A)
    (I1 : Inv X pins σ H1 s1) (rv : RelV v u) (q : ∀ (a d : Addr) (hp2 h2 : Heap) (g2 : Array GenState) (d2 : Drawn) (t2 : Nat) (os2 : OsState), H1 a = none → H1 d = none → d ≠ a → s1.heap.objs.size ≤ a → (∀ b o, s1.heap.get? b = some o → hp2.get? b = some o) →
      Un (frs X.stack) [] (upd H1 a (exo a C none)) (upd (upd H1 d (exd d [(("found" : Str), v)])) a (exo a C (some d))) hp2 h2 → HOk X.prog X.w (upd (upd H1 d (exd d [(("found" : Str), v)])) a (exo a C (some d))) h2 → os2 = s1.os → AllBare g2 →
      Inv X pins σ (upd (upd H1 d (exd d [(("found" : Str), v)])) a (exo a C (some d))) ⟨h2, g2, d2, t2, os2⟩ → Q (.ref a) ⟨h2, g2, d2, t2, os2⟩) :
    wpAny (model X.prog X.w) X.A (call (.ref C) [u]) Q X.xe s1 := by
  obtain ⟨nm, qq, N, bs, bm, sn, sub, ab, col, dd, k0, k1, k2, k3, k5, hC, hbm⟩ := T.T.cls
  obtain ⟨hp, g, dr, tk, os⟩ := s1
  have hsz : hp.objs.size ≤ hp.objs.size + 1 := Nat.le_succ _
  have hn : H1 (hp.objs.size + 1) = none := I1.hok.fresh hsz
  have kk : ∀ b o, hp.get? b = some o → ((hp.push (PySem.W.kdv_tup [u])).push (PySem.HandSPX.excO C hp.objs.size)).get? b = some o := fun b o e => Heap.get?_push_of_some _ (Heap.get?_push_of_some _ e)
  have hget : ((hp.push (PySem.W.kdv_tup [u])).push (PySem.HandSPX.excO C hp.objs.size)).get? (hp.objs.size + 1) = some (PySem.HandSPX.excO C hp.objs.size) := by heap_get
  have I2 : Inv X pins σ (upd H1 (hp.objs.size + 1) (exo (hp.objs.size + 1) C none)) ⟨(hp.push (PySem.W.kdv_tup [u])).push (PySem.HandSPX.excO C hp.objs.size), g, dr, tk, os⟩ :=
    I1.laid (t' := tk) (a := hp.objs.size + 1) (o := exo (hp.objs.size + 1) C none) (h' := (hp.push (PySem.W.kdv_tup [u])).push (PySem.HandSPX.excO C hp.objs.size)) kk hsz (exo_ok hget)
  have r2 : Vals [V.ref (hp.objs.size + 1), v] [Value.ref (hp.objs.size + 1), u] := .cons rfl (.cons rv .nil)
  have hus : [u].length ≤ sizeLine := by
    rw [sizeLine_eq]
    exact (by decide : 1 ≤ 16777216)
  have sp1 : spInit X.K C [.ref (hp.objs.size + 1), v] (upd H1 (hp.objs.size + 1) (exo (hp.objs.size + 1) C none)) (fun w H2 => w = .non ∧ ∃ d, H1 d = none ∧ d ≠ hp.objs.size + 1 ∧ H2 = upd (upd H1 d (exd d [(("found" : Str), v)])) (hp.objs.size + 1) (exo (hp.objs.size + 1) C (some d))) (fun _ _ _ => False) :=
    init_use T fun d hd ne => ⟨rfl, d, hd, ne, rfl⟩
  refine wpAny_call (PySem.HandSPX.call_own F.excBase_ValueError (fun Y => PySem.HandSPX.refsVE_contains Y bm hbm) (I1.kIn _ _ hC) (PySem.W.looks_findIn I1.kIn T.iC) (fun self => PySem.W.bind_fn I1.kIn self T.tI) hus
    (codeAny_mono (F1.run _ X.stack _ _ ⟨[Value.ref (hp.objs.size + 1), u], []⟩ [Value.ref (hp.objs.size + 1), u] _ _ (fun _ _ _ => False) (hr.make C [u] []) (I2.env0.make C [u] []) (hb _ [Value.ref (hp.objs.size + 1), u] I2.kIn rfl) r2 sp1) fun r s' hq' => ?_))
  cases r with
  | error er => exact hq'.elim
  | ok fl =>
    cases fl with
    | ret z =>
      have hq0 := hq'
      obtain ⟨w, H2, os2, bare2, un2, hok2, rw', ew, d, hd1, ne, e2⟩ := hq'
      subst ew e2
      obtain ⟨w', H3, J, rw2, ew2, d', hd', ne', e3⟩ := I2.after hq0
      subst ew2
      obtain ⟨h2, g2, d2, t2, os'⟩ := s'
      refine ⟨rw', q _ d _ h2 g2 d2 t2 os' hn hd1 ne hsz kk un2 hok2 os2 bare2 ?_⟩
      exact I2.call' (ch := []) os2 un2 hok2 bare2 (fun b z => absurd z (by simp))
    | next => exact False.elim hq'
    | brk => exact False.elim hq'
    | cont => exact False.elim hq'
theorem pe_mkX (T : ExK X.K X.mg n C fI) (F1 : FnOk X.prog X.w X.K X.mg X.base CX0 k fI (fdOf X.K fI) ["self", "found"] (spInit X.K C)) (hb : Binds X.K (fdOf X.K fI) ["self", "found"] []) (hr : Room (k + 1) X.A) (hg : Gl X n) (ha : PA X [e] ta)
    (hdb : (n == ("__debug__" : Str)) = false := by decide) (he : starEach [e] X.env = (false, eval e X.env) :: starEach [] X.env := by rfl) (hpl : (backTo pos (starEach [] X.env)).any (·.1) = false := by rfl) :
    PE X (.Call (.Name n p) [e] [] pos) (tMkE C ta) := by
  refine ⟨fun pins s σ H Q I h => ?_⟩
  refine wpAny_Call_Name_kw (ld_glob I hg T.g ?_ hdb)
  refine PySem.W.callWith_K (h₀ := X.base) I.ok.mod.kin T.T.kC (thn (ha.run pos pins s σ H _ I h) fun us s1 ⟨vs, H1, I1, r1, v, ev, q1⟩ => ⟨I1.kIn, ?_⟩) he hpl
  subst ev
  cases r1 with
  | @cons _ u _ us rv rn =>
    cases rn
    show wpAny _ _ (call (.ref C) [u]) _ _ _
    exact run_exc T F1 hb hr I1 rv fun a d hp2 h2 g2 d2 t2 os2 ha hd ne _ _ _ _ _ _ J => ⟨.ref a, _, J, rfl, q1 a d ha hd ne⟩
/-- C(e), to be raised -/
def tMkX (C : Addr) (ta : TA) : L2.St → Hp → XK → Prop := fun σ H Q => ta σ H fun vs H1 => ∃ v, vs = [v] ∧ ∀ d, H1 d = none → Q (.ref C) (some d) (upd H1 d (.xd [(("found" : Str), v)]))
theorem pmk_X (T : ExK X.K X.mg n C fI) (F1 : FnOk X.prog X.w X.K X.mg X.base CX0 k fI (fdOf X.K fI) ["self", "found"] (spInit X.K C)) (hb : Binds X.K (fdOf X.K fI) ["self", "found"] []) (hr : Room (k + 1) X.A) (hg : Gl X n) (ha : PA X [e] ta)
    (hdb : (n == ("__debug__" : Str)) = false := by decide) (he : starEach [e] X.env = (false, eval e X.env) :: starEach [] X.env := by rfl) (hpl : (backTo pos (starEach [] X.env)).any (·.1) = false := by rfl) :
    PMk X (.Call (.Name n p) [e] [] pos) (tMkX C ta) := by
  intro pins s σ H Q I h
  refine wpAny_Call_Name_kw (ld_glob I hg T.g ?_ hdb)
  refine PySem.W.callWith_K (h₀ := X.base) I.ok.mod.kin T.T.kC (thn (ha.run pos pins s σ H _ I h) fun us s1 ⟨vs, H1, I1, r1, v, ev, q1⟩ => ⟨I1.kIn, ?_⟩) he hpl
  subst ev
  cases r1 with
  | @cons _ u _ us rv rn =>
    cases rn
    show wpAny _ _ (call (.ref C) [u]) _ _ _
    refine run_exc T F1 hb hr I1 rv fun a d hp2 h2 g2 d2 t2 os2 ha hd ne hsz kk un hok eo hb2 J => ?_
    obtain ⟨hp, g, dr, tk, os⟩ := s1
    refine mk_end (fs := [(("found" : Str), v)]) (hp2 := hp2) (os1 := os) (raises_own T.T.exC T.T.tyC) I1 hsz kk un hok eo hb2 upd_same (by rw [upd_ne ne, upd_same]) hd ?_
    have e1 : upd (del (upd (upd H1 d (exd d [(("found" : Str), v)])) a (exo a C (some d))) a) d (.xd [(("found" : Str), v)]) = upd H1 d (.xd [(("found" : Str), v)]) := by
      funext b
      by_cases h1 : b = d
      · rw [h1, upd_same, upd_same]
      · rw [upd_ne h1, upd_ne h1]
        by_cases h2 : b = a
        · rw [h2, del_same, ha]
        · rw [del_ne h2, upd_ne h2, upd_ne h1]
    rw [e1]
    exact q1 d hd
def tRaiseX (C : Addr) (W : L2.WX) (ta : TA) : TS := fun _ σ H => tMkX C ta σ H fun cls d H' => W cls d σ H'
theorem ps_raiseX {W : L2.WX} {pos2 : Pos} (hc : X.calm = true) (tk : Takes X W) (T : ExK X.K X.mg n C fI) (F1 : FnOk X.prog X.w X.K X.mg X.base CX0 k fI (fdOf X.K fI) ["self", "found"] (spInit X.K C)) (hb : Binds X.K (fdOf X.K fI) ["self", "found"] []) (hr : Room (k + 1) X.A) (hg : Gl X n) (ha : PA X [e] ta)
    (hdb : (n == ("__debug__" : Str)) = false := by decide) (he : starEach [e] X.env = (false, eval e X.env) :: starEach [] X.env := by rfl) (hpl : (backTo pos (starEach [] X.env)).any (·.1) = false := by rfl) :
    PS X (.Raise (some (.Call (.Name n p) [e] [] pos)) none pos2) (tRaiseX C W ta) := ps_raise hc tk (pmk_X T F1 hb hr hg ha hdb he hpl)
end
/-- the same over the heap in two parts -/
theorem mkE_use {H D : Hp} {R : List (Addr × HO)} {v : V} {C : Addr} {Q : VK} (h : HI H R D) (k : ∀ a d H' D', HI H' R D' → Ex D D' → D' a = some (exo a C (some d)) → D' d = some (exd d [(("found" : Str), v)]) → Q (.ref a) H') :
    ∃ w, [v] = [w] ∧ ∀ a d, H a = none → H d = none → d ≠ a → Q (.ref a) (upd (upd H d (exd d [(("found" : Str), w)])) a (exo a C (some d))) :=
  ⟨v, rfl, fun a d ha hd ne => by
    have h1 := h.newD (o := exd d [(("found" : Str), v)]) hd
    have ha1 : upd H d (exd d [(("found" : Str), v)]) a = none := by rw [upd_ne ne.symm]; exact ha
    have h2 := h1.newD (o := exo a C (some d)) ha1
    exact k a d _ _ h2 ((Ex.new (h.free hd)).trans (Ex.new (h1.free ha1))) upd_same (by rw [upd_ne ne, upd_same])⟩
theorem mkX_use {H D : Hp} {R : List (Addr × HO)} {v : V} {C : Addr} {E : XK} (h : HI H R D) (k : ∀ d H' D', HI H' R D' → Ex D D' → D' d = some (.xd [(("found" : Str), v)]) → E (.ref C) (some d) H') :
    ∃ w, [v] = [w] ∧ ∀ d, H d = none → E (.ref C) (some d) (upd H d (.xd [(("found" : Str), w)])) :=
  ⟨v, rfl, fun d hd => k d _ _ (h.newD hd) (Ex.new (h.free hd)) upd_same⟩
end Wk

set_option maxRecDepth 100000
set_option maxHeartbeats 4000000
/-! Own exceptions with a field found whose args are told, too: made and held as values, so that repr may show them. -/
namespace Wk
open PySem PySem.Spec PyProof.Rows L2
/-- at e: an exception of the class at C, its args at t1 -/
def exq (e C : Addr) (d : Option Addr) (t1 : Addr) : HO := .ext fun h => h.get? e = some ({ cls := .ref C, dict := d, data := .fields #[.ref t1, .none, .none, .none, .bool false, .none] } : Obj)
theorem exq_own {e C x t1 : Addr} {d : Option Addr} : exq e C d t1 ≠ .own x := fun z => by
  have z' : HO.ext _ = HO.own x := z
  cases z'
theorem exq_tup {e C t1 : Addr} {d : Option Addr} {xs : List V} : exq e C d t1 ≠ .tup xs := fun z => by
  have z' : HO.ext _ = HO.tup xs := z
  cases z'
theorem exq_frz {e C t1 : Addr} {d : Option Addr} {o : Obj} {u : HO} : exq e C d t1 ≠ .frz o u := fun z => by
  have z' : HO.ext _ = HO.frz o u := z
  cases z'
theorem exq_tbl {e C t1 : Addr} {d : Option Addr} {ps : Array Value} : exq e C d t1 ≠ .tbl ps := fun z => by
  have z' : HO.ext _ = HO.tbl ps := z
  cases z'
theorem exq_ok {P : Program} {w : World} {H : Hp} {h : Heap} {e C t1 : Addr} {d : Option Addr} (he : h.get? e = some ({ cls := .ref C, dict := d, data := .fields #[.ref t1, .none, .none, .none, .bool false, .none] } : Obj)) : ObjOk P w H h e (exq e C d t1) :=
  ⟨he, ⟨_, he⟩, fun h1 h2 z k => k _ z⟩
theorem exq_at {P : Program} {w : World} {H : Hp} {h : Heap} {e C t1 : Addr} {d : Option Addr} (hok : HOk P w H h) (he : H e = some (exq e C d t1)) : h.get? e = some ({ cls := .ref C, dict := d, data := .fields #[.ref t1, .none, .none, .none, .bool false, .none] } : Obj) := by
  have x : ObjOk P w H h e (.ext fun h => h.get? e = some ({ cls := .ref C, dict := d, data := .fields #[.ref t1, .none, .none, .none, .bool false, .none] } : Obj)) := hok e _ he
  exact x.1
section
variable {X : Cx} {pins : List (Addr × Obj)} {σ : L2.St} {H : Hp} {s : Shared} {a C dx t1 : Addr} {f : Str} {y : V} {u : Value} {fs : List (Str × V)} {E : Value → Shared → Prop} {A : Around}
/-- self.f = y, the first one -/
theorem ost_newQ {Q : Unit → Shared → Prop} (T : OexC X.K C) (I : Inv X pins σ H s) (e : H a = some (exq a C none t1)) (hno : PySem.W.findIn X.K (.ref C) f = some none) (ry : RelV y u)
    (h : ∀ dx s', H dx = none → dx ≠ a → Inv X pins σ (upd (upd H dx (exd dx [(f, y)])) a (exq a C (some dx) t1)) s' → Q () s') : wpAny (model X.prog X.w) A (setAttr (.ref a) f u) Q E s := by
  obtain ⟨nm, q, N, bs, bm, sn, sub, ab, col, dd, k0, k1, k2, k3, k5, hC, hbm⟩ := T.cls
  have hcl : PySem.W.clsIn X.K C = some { name := nm, bases := bs, mro := .ref C :: bm, ns := N, qualname := q, hasDict := true, slotNames := sn, subclasses := sub, abstract := ab, collection := col, hasDel := false } := by unfold PySem.W.clsIn; rw [hC] <;> rfl
  have ho := exq_at I.hok e
  obtain ⟨hp, g, d, t, os⟩ := s
  refine PySem.W.set_plain I.kIn (ox := { cls := .ref C, dict := none, data := .fields #[.ref t1, .none, .none, .none, .bool false, .none] }) (od := none) ⟨ho, rfl, rfl, trivial⟩ T.sa ?_
  refine PySem.HandSPX.exc_osa I.kIn ho hcl (show PySem.HandSPX.refsVE (.ref C :: bm) = true from hbm) rfl hno (fun h' tk' dx k dn dne hx hn => ?_)
  have hnd : H dx = none := I.hok.fresh dn
  have nd : ∀ {b : Addr} {o : Obj}, hp.get? b = some o → b ≠ dx := fun {b o} q => Nat.ne_of_lt (Nat.lt_of_lt_of_le (Heap.lt_size q) dn)
  have na : ∀ {b : Addr}, H b = none → b ≠ a := fun {b} n z => by
    rw [z, e] at n
    cases n
  have Un1 : Un X.fs [] H (upd (upd H dx (exd dx [(f, y)])) a (exq a C (some dx) t1)) hp h' := {
    keep := fun b o q n _ _ => k b o (na n) q
    slot := fun b o q n _ _ => ⟨o.slots, k b o (na n) q⟩
    free := fun b o q n _ => by rw [upd_ne (na n), upd_ne (nd q)]; exact n
    there := fun b o q _ => by
      by_cases hb : b = a
      · exact ⟨_, by rw [hb]; exact hx⟩
      · exact ⟨o, k b o hb q⟩
    tups := fun b xs q => by rw [upd_ne (at_ne e q exq_tup), upd_ne (ne_of_none q hnd)]; exact q
    frzs := fun b o v q => by rw [upd_ne (at_ne e q exq_frz), upd_ne (ne_of_none q hnd)]; exact q
    tbls := fun b ps q => ⟨#[], by rw [upd_ne (at_ne e q exq_tbl), upd_ne (ne_of_none q hnd), q]; simp⟩ }
  refine h dx _ hnd dne (I.un (t' := tk') Un1 fun b o q => ?_)
  by_cases hb : b = a
  · subst hb
    rw [upd_same] at q
    cases q
    exact exq_ok hx
  · rw [upd_ne hb] at q
    by_cases hd : b = dx
    · subst hd
      rw [upd_same] at q
      cases q
      exact exd_ok hn (relO_put (fs := []) ry fun g => True.intro)
    · rw [upd_ne hd] at q
      exact (I.hok b o q).stay (fun c v hc z => k c v (by
          rcases hc with hc | hc
          · rw [hc]
            exact hb
          · exact at_ne e hc exq_own) z)
        (fun c hc => by rw [upd_ne (at_ne e hc exq_own), upd_ne (ne_of_none hc hnd)]; exact hc) (fun c xs hc => by rw [upd_ne (at_ne e hc exq_tup), upd_ne (ne_of_none hc hnd)]; exact hc)
end
section
open PySem.W PySem.Calls PySem.HandSPX
variable {prog : Program} {w : World} {A : Around} {R : Result → Shared → Prop} {h : Heap} {g : Array GenState} {d : Drawn} {t : Nat} {os : OsState} {B newId initId : String} {bmB bm bs : List Value} {nm q : Str} {C N : Addr}
theorem init_baseQ {hdct : Bool} {sn : List Str} {sub : List Value} {ab col} {dd k0 k1 k2 k3 k5} (F : ExcBaseFacts B newId initId bmB) (hT : ∀ X : String, bm.contains (.type X) = bmB.contains (.type X)) {e t0 : Addr} {rest : List Value}
    (hC : h.get? C = some (excClassObj nm q C N bs bm hdct sn sub ab col dd k0 k1 k2 k3 k5 newId)) (he : h.get? e = some (excO C t0)) (hrest : rest.length ≤ sizeLine)
    (hq : ∀ h', (∀ b o, b ≠ e → (h.push (kdv_tup rest)).get? b = some o → h'.get? b = some o) → h'.get? e = some (excO C h.objs.size) → R (.ok (.ret .none)) ⟨h', g, d, t, os⟩) :
    codeAny (model prog w) A (.call (.builtin initId) ⟨.ref e :: rest, []⟩) R ⟨h, g, d, t, os⟩ := by
  refine codeAny_call_builtin F.init.plain F.initEntry (check_init_own F hT hC he rfl ?_)
  wp_walk
  refine hq _ (fun b o hb ho => ?_) ?_
  · rw [Heap.get?_update_other _ _ (Ne.symm hb)]
    exact ho
  · rw [Heap.get?_update_self _ (Heap.get?_push_of_some _ he) rfl]
    rfl
end
section
variable {X : Cx} {pins : List (Addr × Obj)} {σ : L2.St} {H : Hp} {s : Shared} {a C dx t1 : Addr} {E : Value → Shared → Prop} {A : Around}
/-- ValueError.__init__(self, ..): the args are told -/
theorem oinit_okQ {us : List Value} {ws : List V} {Q : Value → Shared → Prop} (T : OexC X.K C) (I : Inv X pins σ H s) (e : H a = some (exo a C none)) (rv : Vals ws us) (hl : us.length ≤ sizeLine)
    (h : ∀ t1 s', H t1 = none → t1 ≠ a → Inv X pins σ (upd (upd H t1 (.tup ws)) a (exq a C none t1)) s' → Q .none s') :
    wpAny (model X.prog X.w) A (call (.builtin "ValueError.__init__") (.ref a :: us)) Q E s := by
  obtain ⟨nm, q, N, bs, bm, sn, sub, ab, col, dd, k0, k1, k2, k3, k5, hC, hbm⟩ := T.cls
  obtain ⟨t1, ho⟩ := exo_at I.hok e
  obtain ⟨hp, g, d, t, os⟩ := s
  refine wpAny_call (init_baseQ F.excBase_ValueError (fun Y => PySem.HandSPX.refsVE_contains Y bm hbm) (I.kIn _ _ hC) ho hl fun h' k hx => ?_)
  have hn : H hp.objs.size = none := I.hok.fresh (Nat.le_refl _)
  have hna : hp.objs.size ≠ a := fun z => by
    rw [z, e] at hn
    cases hn
  have J1 := I.laid (t' := t) (a := hp.objs.size) (o := .tup ws) (h' := hp.push (PySem.W.kdv_tup us)) (fun b u e => Heap.get?_push_of_some _ e) (Nat.le_refl _) ⟨by rw [rv.length]; exact hl, us, rv, ⟨_, Heap.get?_push_size _ rfl, rfl, _, rfl⟩⟩
  have e1 : upd H hp.objs.size (.tup ws) a = some (exo a C none) := by rw [upd_ne (Ne.symm hna)]; exact e
  exact h _ _ hn hna (J1.write (t' := t) (x := a) (e := a) (o := exq a C none hp.objs.size) (by rw [e1]; exact True.intro) (.inl rfl) k ⟨_, hx⟩ (exq_ok hx))
end
def tVeQ (K : PySem.W.Frag) (ta : TA) : TE := fun σ H Q => ta σ H fun vs H1 => ∃ (a C : Addr) (ws : List V), vs = .ref a :: ws ∧ ws.length ≤ 1000 ∧ OexC K C ∧ H1 a = some (exo a C none) ∧ ∀ t1, H1 t1 = none → t1 ≠ a → Q .non (upd (upd H1 t1 (.tup ws)) a (exq a C none t1))
def tOstQ (K : PySem.W.Frag) (f : Str) (to te : TE) : TS := fun D σ H => te σ H fun y H1 => to σ H1 fun x H2 => ∃ a C t1 : Addr, x = .ref a ∧ OexC K C ∧ PySem.W.findIn K (.ref C) f = some none ∧
  H2 a = some (exq a C none t1) ∧ ∀ dx, H2 dx = none → dx ≠ a → D.nx σ (upd (upd H2 dx (exd dx [(f, y)])) a (exq a C (some dx) t1))
section
variable {X : Cx} {o e : Expr} {es : List Expr} {to te : TE} {ta : TA} {f : Str} {p p' p1 p2 pos : Pos} {C fI B : Addr} {n x : Str}
theorem pe_binitQ {pl : Sem Bool} (T : ExB X.K X.mg n B) (hg : Gl X n) (ha : PA X (e :: es) ta) (hdb : (n == ("__debug__" : Str)) = false := by decide)
    (hc : eval (.Call (.Attribute (.Name n p1) "__init__" p2) (e :: es) [] pos) X.env = (do
      let ov ← eval (.Name n p1) X.env
      standAt p2.atName
      let (f, first) ← holding [ov] (getMethod ov "__init__" pl)
      callWith pos f first (backTo pos (starEach (e :: es) X.env)) (backToKw pos (keywordEach [] X.env))) := by rfl)
    (he : starEach (e :: es) X.env = (false, eval e X.env) :: starEach es X.env := by rfl) (hpl : (backTo pos (starEach es X.env)).any (·.1) = false := by rfl) :
    PE X (.Call (.Attribute (.Name n p1) "__init__" p2) (e :: es) [] pos) (tVeQ X.K ta) := by
  refine ⟨fun pins s σ H Q I h => ?_⟩
  refine PySem.W.methodCall_KW (ld_glob I hg T.g ?_ hdb) hc
  refine PySem.W.method_cls I.kIn T.sp ?_
  refine PySem.W.cls_value I.kIn T.rd T.vV (by decide +kernel) ?_
  show wpAny _ _ (callWith pos (Value.builtin "ValueError.__init__") [] (backTo pos (starEach (e :: es) X.env)) []) _ _ _
  refine PyProof.Rows.callWith_method1 (thn (ha.run pos pins _ σ H _ (I.tok _) h) fun us s1 ⟨vs, H1, I1, r1, a, C, ws, ev, hl, T, ea, q⟩ => ?_) he hpl
  subst ev
  cases r1 with
  | @cons _ u0 _ ur ra rw' =>
    obtain rfl : u0 = Value.ref a := ra
    have hlen : ur.length ≤ sizeLine := by
      rw [← Paired.length rw', sizeLine_eq]
      omega
    exact oinit_okQ T I1 ea rw' hlen fun t1 s' n ne J => ⟨.non, _, J, rfl, q t1 n ne⟩
theorem ps_ostQ (ho : PE X o to) (he : PE X e te) (hs : swapsWith e (some (.Attribute o f p')) pos.line X.env = pure false := by rfl) : PS X (.Assign [.Attribute o f p'] e pos) (tOstQ X.K f to te) := by
  refine ⟨fun pins s σ H D I h => ?_⟩
  refine plainObj_wpAny_Assign_Attribute (thn (he.run pins s σ H _ I h) fun v s1 ⟨y, H1, I1, r1, q1⟩ => thn (ho.run pins s1 σ H1 _ I1 q1) fun u s2 ⟨x, H2, I2, r2, a, C, t1, ex, T, hno, ea, q⟩ => ?_) hs
  subst ex
  obtain rfl : u = Value.ref a := r2
  exact ost_newQ T I2 ea hno r1 fun dx s' n ne J => ⟨σ, _, J, q dx n ne⟩
end
/-- what is made: the args, the dict, the exception -/
def mkd (a C d t1 : Addr) (z : Str) (v : V) (H : Hp) : Hp := upd (upd (upd H t1 (.tup [.str z])) d (exd d [(("found" : Str), v)])) a (exq a C (some d) t1)
/-- __init__(self, found) -/
def spInitQ (K : PySem.W.Frag) (C : Addr) (z : Str) : Sp := fun vs H Q _ => ∃ (a : Addr) (v : V), vs = [.ref a, v] ∧ OexC K C ∧ PySem.W.findIn K (.ref C) "found" = some none ∧ H a = some (exo a C none) ∧
  ∀ t1 d, H t1 = none → t1 ≠ a → H d = none → d ≠ a → d ≠ t1 → Q .non (mkd a C d t1 z v H)
theorem spInitQ_len {K : PySem.W.Frag} {C : Addr} {z : Str} {vs : List V} {H : Hp} {Q : VK} {E : XK} (h : spInitQ K C z vs H Q E) : vs.length = (["self", "found"] : List Str).length := by
  obtain ⟨a, v, rfl, _⟩ := h
  rfl
theorem init_plainQ {K : PySem.W.Frag} {C : Addr} {z : Str} {vs : List V} {H : Hp} {Q : VK} {E : XK} (h : spInitQ K C z vs H Q E) :
    tSeq (tDrop (tVeQ K (tCons (tVar 0) (tCons (tC (.str z)) tNil)))) (tOstQ K "found" (tVar 0) (tVar 1)) { nx := fun _ H' => Q .non H', rt := Q } (start ["self", "found"] vs) H := by
  obtain ⟨a, v, rfl, T, no, ea, k⟩ := h
  refine ⟨_, rfl, a, C, [.str z], rfl, (show 1 ≤ 1000 by decide), T, ea, fun t1 n1 ne1 => ⟨_, rfl, _, rfl, a, C, t1, rfl, T, no, upd_same, fun dx nd ned => ?_⟩⟩
  rw [upd_ne ned] at nd
  have ndt : dx ≠ t1 := fun z => by
    rw [z, upd_same] at nd
    cases nd
  rw [upd_ne ndt] at nd
  rw [upd_end ned]
  exact k t1 dx n1 ne1 nd ned ndt
section
variable {X : Cx} {e : Expr} {te : TE} {ta : TA} {p pos : Pos} {C fI : Addr} {n z : Str} {k : Nat}
theorem run_excQ {pins : List (Addr × Obj)} {σ : L2.St} {H1 : Hp} {s1 : Shared} {v : V} {u : Value} {Q : Value → Shared → Prop} (T : ExK X.K X.mg n C fI) (F1 : FnOk X.prog X.w X.K X.mg X.base CX0 k fI (fdOf X.K fI) ["self", "found"] (spInitQ X.K C z)) (hb : Binds X.K (fdOf X.K fI) ["self", "found"] []) (hr : Room (k + 1) X.A)
    (I1 : Inv X pins σ H1 s1) (rv : RelV v u) (q : ∀ (a d t1 : Addr) (s2 : Shared), H1 a = none → H1 d = none → H1 t1 = none → d ≠ a → t1 ≠ a → d ≠ t1 → Inv X pins σ (mkd a C d t1 z v H1) s2 → Q (.ref a) s2) :
    wpAny (model X.prog X.w) X.A (call (.ref C) [u]) Q X.xe s1 := by
  obtain ⟨nm, qq, N, bs, bm, sn, sub, ab, col, dd, k0, k1, k2, k3, k5, hC, hbm⟩ := T.T.cls
  obtain ⟨hp, g, dr, tk, os⟩ := s1
  have hsz : hp.objs.size ≤ hp.objs.size + 1 := Nat.le_succ _
  have hn : H1 (hp.objs.size + 1) = none := I1.hok.fresh hsz
  have kk : ∀ b o, hp.get? b = some o → ((hp.push (PySem.W.kdv_tup [u])).push (PySem.HandSPX.excO C hp.objs.size)).get? b = some o := fun b o e => Heap.get?_push_of_some _ (Heap.get?_push_of_some _ e)
  have hget : ((hp.push (PySem.W.kdv_tup [u])).push (PySem.HandSPX.excO C hp.objs.size)).get? (hp.objs.size + 1) = some (PySem.HandSPX.excO C hp.objs.size) := by heap_get
  have I2 : Inv X pins σ (upd H1 (hp.objs.size + 1) (exo (hp.objs.size + 1) C none)) ⟨(hp.push (PySem.W.kdv_tup [u])).push (PySem.HandSPX.excO C hp.objs.size), g, dr, tk, os⟩ :=
    I1.laid (t' := tk) (a := hp.objs.size + 1) (o := exo (hp.objs.size + 1) C none) (h' := (hp.push (PySem.W.kdv_tup [u])).push (PySem.HandSPX.excO C hp.objs.size)) kk hsz (exo_ok hget)
  have r2 : Vals [V.ref (hp.objs.size + 1), v] [Value.ref (hp.objs.size + 1), u] := .cons rfl (.cons rv .nil)
  have hus : [u].length ≤ sizeLine := by
    rw [sizeLine_eq]
    exact (by decide : 1 ≤ 16777216)
  have sp1 : spInitQ X.K C z [.ref (hp.objs.size + 1), v] (upd H1 (hp.objs.size + 1) (exo (hp.objs.size + 1) C none)) (fun w H2 => w = .non ∧ ∃ d t1, H1 d = none ∧ H1 t1 = none ∧ d ≠ hp.objs.size + 1 ∧ t1 ≠ hp.objs.size + 1 ∧ d ≠ t1 ∧ H2 = mkd (hp.objs.size + 1) C d t1 z v H1) (fun _ _ _ => False) :=
    ⟨_, v, rfl, T.T, T.no, upd_same, fun t1 d n1 ne1 nd ned ndt => ⟨rfl, d, t1, (upd_ne ned).symm.trans nd, (upd_ne ne1).symm.trans n1, ned, ne1, ndt, by
      unfold mkd
      rw [upd_swap (Ne.symm ne1), upd_end ned]⟩⟩
  refine wpAny_call (PySem.HandSPX.call_own F.excBase_ValueError (fun Y => PySem.HandSPX.refsVE_contains Y bm hbm) (I1.kIn _ _ hC) (PySem.W.looks_findIn I1.kIn T.iC) (fun self => PySem.W.bind_fn I1.kIn self T.tI) hus
    (codeAny_mono (F1.run _ X.stack _ _ ⟨[Value.ref (hp.objs.size + 1), u], []⟩ [Value.ref (hp.objs.size + 1), u] _ _ (fun _ _ _ => False) (hr.make C [u] []) (I2.env0.make C [u] []) (hb _ [Value.ref (hp.objs.size + 1), u] I2.kIn rfl) r2 sp1) fun r s' hq' => ?_))
  cases r with
  | error er => exact hq'.elim
  | ok fl =>
    cases fl with
    | ret zz =>
      have hq0 := hq'
      obtain ⟨w, H2, os2, bare2, un2, hok2, rw', ew, _⟩ := hq'
      subst ew
      obtain ⟨w', H3, J, rw2, ew2, d', t', hd', ht', ne1, ne2, ne3, e3⟩ := I2.after hq0
      subst ew2
      subst e3
      exact ⟨rw', q _ d' t' _ hn hd' ht' ne1 ne2 ne3 J⟩
    | next => exact False.elim hq'
    | brk => exact False.elim hq'
    | cont => exact False.elim hq'
/-- C(e) -/
def tMkQ (C : Addr) (z : Str) (ta : TA) : TE := fun σ H Q => ta σ H fun vs H1 => ∃ v, vs = [v] ∧ ∀ a d t1, H1 a = none → H1 d = none → H1 t1 = none → d ≠ a → t1 ≠ a → d ≠ t1 → Q (.ref a) (mkd a C d t1 z v H1)
theorem pe_mkQ (T : ExK X.K X.mg n C fI) (F1 : FnOk X.prog X.w X.K X.mg X.base CX0 k fI (fdOf X.K fI) ["self", "found"] (spInitQ X.K C z)) (hb : Binds X.K (fdOf X.K fI) ["self", "found"] []) (hr : Room (k + 1) X.A) (hg : Gl X n) (ha : PA X [e] ta)
    (hdb : (n == ("__debug__" : Str)) = false := by decide) (he : starEach [e] X.env = (false, eval e X.env) :: starEach [] X.env := by rfl) (hpl : (backTo pos (starEach [] X.env)).any (·.1) = false := by rfl) :
    PE X (.Call (.Name n p) [e] [] pos) (tMkQ C z ta) := by
  refine ⟨fun pins s σ H Q I h => ?_⟩
  refine wpAny_Call_Name_kw (ld_glob I hg T.g ?_ hdb)
  refine PySem.W.callWith_K (h₀ := X.base) I.ok.mod.kin T.T.kC (thn (ha.run pos pins s σ H _ I h) fun us s1 ⟨vs, H1, I1, r1, v, ev, q1⟩ => ⟨I1.kIn, ?_⟩) he hpl
  subst ev
  cases r1 with
  | @cons _ u _ us rv rn =>
    cases rn
    show wpAny _ _ (call (.ref C) [u]) _ _ _
    exact run_excQ T F1 hb hr I1 rv fun a d t1 s2 ha hd ht n1 n2 n3 J => ⟨.ref a, _, J, rfl, q1 a d t1 ha hd ht n1 n2 n3⟩
end
/-- the same over the heap in two parts -/
def MkQP (C : Addr) (z : Str) (vs : List V) (H : Hp) (Q : VK) : Prop := ∃ v, vs = [v] ∧ ∀ a d t1, H a = none → H d = none → H t1 = none → d ≠ a → t1 ≠ a → d ≠ t1 → Q (.ref a) (mkd a C d t1 z v H)
theorem se_mkQ {C : Addr} {z : Str} {ta : TA} {σ : L2.St} {H : Hp} {Q : VK} (h : ta σ H fun vs H1 => MkQP C z vs H1 Q) : tMkQ C z ta σ H Q := h
theorem mkQ_now {H D : Hp} {R : List (Addr × HO)} {v : V} {C : Addr} {z : Str} {Q : VK} (h : HI H R D) (k : ∀ a d t1 H' D', HI H' R D' → Ex D D' → D' a = some (exq a C (some d) t1) → D' d = some (exd d [(("found" : Str), v)]) → D' t1 = some (.tup [.str z]) → Q (.ref a) H') : MkQP C z [v] H Q :=
  ⟨v, rfl, fun a d t1 ha hd ht n1 n2 n3 => by
    have h0 := h.newD (o := .tup [.str z]) ht
    have hd1 : upd H t1 (.tup [.str z]) d = none := by rw [upd_ne n3]; exact hd
    have h1 := h0.newD (o := exd d [(("found" : Str), v)]) hd1
    have ha1 : upd (upd H t1 (.tup [.str z])) d (exd d [(("found" : Str), v)]) a = none := by rw [upd_ne n1.symm, upd_ne n2.symm]; exact ha
    have h2 := h1.newD (o := exq a C (some d) t1) ha1
    exact k a d t1 _ _ h2 ((Ex.new (h.free ht)).trans ((Ex.new (h0.free hd1)).trans (Ex.new (h1.free ha1)))) upd_same (by rw [upd_ne n1, upd_same]) (by rw [upd_ne n2, upd_ne n3.symm, upd_same])⟩
end Wk

set_option maxRecDepth 100000
set_option maxHeartbeats 4000000
/-! Own exceptions over LookupError: what LayX tells of those over ValueError. -/
namespace Wk
namespace LE
open PySem PySem.Spec PyProof.Rows L2
open Builtin Builtin.ObjectAttr PySem.HandSPX
abbrev tailL : List Value := [.type "LookupError", .type "Exception", .type "BaseException", .type "object"]
structure OexL (K : PySem.W.Frag) (C : Addr) : Prop where
  init : PySem.W.excInitIn K C tailL "LookupError.__new__" = true
  over : PySem.W.excOver K C tailL = true
  tk : PySem.W.takerIn K C ("found" : Str) = some none
  hd : PySem.W.hasDictIn K C = true
  sa : PySem.W.findIn K (.ref C) "__setattr__" = some (some (.builtin "object.__setattr__"))
  exC : PySem.W.subIn K (.ref C) (.type "BaseException") = some true
  tyC : PySem.W.typeIn K (.ref C) = some (.type "type")
  kC : PySem.W.keepIn K (.ref C) = true
section
variable {prog : Program} {w : World} {A : Around} {R : Result → Shared → Prop} {hp : Heap} {g : Array GenState} {d : Drawn} {t : Nat} {os : OsState}
/-- self.found = v, the first store -/
theorem osaL {K : PySem.W.Frag} {tk : Tok} {v : Value} {x C : Addr} {fv : Array Value} (T : OexL K C)
    (X : K.In hp) (hx : hp.get? x = some { cls := .ref C, data := .fields fv })
    (hq : ∀ h' tk' dx, (∀ b o, b ≠ x → hp.get? b = some o → h'.get? b = some o) → hp.objs.size ≤ dx → dx ≠ x → h'.get? x = some { cls := .ref C, dict := some dx, data := .fields fv } →
      h'.Ns1 dx (fun y => if y = ("found" : Str) then some v else none) → R (.ok (.ret .none)) ⟨h', g, d, tk', os⟩) :
    codeAny (model prog w) A (.call (.builtin "object.__setattr__") ⟨[.ref x, .str "found" tk, v], []⟩) R ⟨hp, g, d, t, os⟩ := by
  have I : PySem.W.InstAt hp x { cls := .ref C, data := .fields fv } C none := ⟨hx, rfl, rfl, trivial⟩
  refine PySem.W.osa_openX (s := ⟨hp, g, d, t, os⟩) F.store_LookupError X I T.over T.tk (fun b => ?_)
  obtain ⟨cd, hc, hd'⟩ := PySem.W.any_some T.hd
  have hcls : PySem.W.Looks (model prog w) hp (classData C) cd := PySem.W.looks_clsIn X hc
  have hxs : x ≠ hp.objs.size := Nat.ne_of_lt (Heap.lt_size hx)
  obtain ⟨nm, bs, mro, ns, qn, hd, sn, sb, ab, col, del⟩ := cd
  have hd2 : hd = true := hd'
  subst hd2
  show wpAny _ _ (storeInOwnDict (.ref x) (.ref C) (.str "found" tk) "found" v b) _ _ _
  unfold storeInOwnDict ownDictForStores
  repeat (first | with_reducible refine store_in_new ?_ ?_ | with_reducible refine wpAny_loadPart_at hx ?_ | with_reducible refine hcls.at ?_ | wp_step)
  · exact ⟨_, #[], _, (Heap.get?_update_ne _ _ _ _ hxs.symm).trans (Heap.get?_push_at rfl rfl), rfl, fun e he => absurd he (by simp), fun _ => rfl⟩
  · intro h' tk' hn' hs
    have hx1 : (hp.push { cls := .type "dict", data := .dict #[] }).get? x = some { cls := .ref C, data := .fields fv } := Heap.get?_push_of_some _ hx
    refine hq h' tk' hp.objs.size (fun b o hb ho => ?_) (Nat.le_refl _) hxs.symm ?_ hn'
    · exact (hs.2 b (Nat.ne_of_lt (Heap.lt_size ho))).trans ((Heap.get?_update_ne _ _ _ _ hb).trans (Heap.get?_push_of_some _ ho))
    · exact (hs.2 x hxs).trans (Heap.get?_update_self _ hx1 rfl)
end
section
variable {X : Cx} {pins : List (Addr × Obj)} {σ : L2.St} {H : Hp} {s : Shared} {a C : Addr} {y : V} {u : Value} {E : Value → Shared → Prop} {A : Around}
/-- self.found = y -/
theorem ost_newL {Q : Unit → Shared → Prop} (T : OexL X.K C) (I : Inv X pins σ H s) (e : H a = some (exo a C none)) (ry : RelV y u)
    (h : ∀ dx s', H dx = none → dx ≠ a → Inv X pins σ (upd (upd H dx (exd dx [(("found" : Str), y)])) a (exo a C (some dx))) s' → Q () s') : wpAny (model X.prog X.w) A (setAttr (.ref a) "found" u) Q E s := by
  obtain ⟨t1, ho⟩ := exo_at I.hok e
  obtain ⟨hp, g, d, t, os⟩ := s
  refine PySem.W.set_plain I.kIn (ox := { cls := .ref C, dict := none, data := .fields #[.ref t1, .none, .none, .none, .bool false, .none] }) (od := none) ⟨ho, rfl, rfl, trivial⟩ T.sa ?_
  refine osaL T I.kIn ho (fun h' tk' dx k dn dne hx hn => ?_)
  have hnd : H dx = none := I.hok.fresh dn
  have nd : ∀ {b : Addr} {o : Obj}, hp.get? b = some o → b ≠ dx := fun {b o} q => Nat.ne_of_lt (Nat.lt_of_lt_of_le (Heap.lt_size q) dn)
  have na : ∀ {b : Addr}, H b = none → b ≠ a := fun {b} n z => by
    rw [z, e] at n
    cases n
  have Un1 : Un X.fs [] H (upd (upd H dx (exd dx [(("found" : Str), y)])) a (exo a C (some dx))) hp h' := {
    keep := fun b o q n _ _ => k b o (na n) q
    slot := fun b o q n _ _ => ⟨o.slots, k b o (na n) q⟩
    free := fun b o q n _ => by rw [upd_ne (na n), upd_ne (nd q)]; exact n
    there := fun b o q _ => by
      by_cases hb : b = a
      · exact ⟨_, by rw [hb]; exact hx⟩
      · exact ⟨o, k b o hb q⟩
    tups := fun b xs q => by rw [upd_ne (at_ne e q exo_tup), upd_ne (ne_of_none q hnd)]; exact q
    frzs := fun b o v q => by rw [upd_ne (at_ne e q exo_frz), upd_ne (ne_of_none q hnd)]; exact q
    tbls := fun b ps q => ⟨#[], by rw [upd_ne (at_ne e q exo_tbl), upd_ne (ne_of_none q hnd), q]; simp⟩ }
  refine h dx _ hnd dne (I.un (t' := tk') Un1 fun b o q => ?_)
  by_cases hb : b = a
  · subst hb
    rw [upd_same] at q
    cases q
    exact exo_ok hx
  · rw [upd_ne hb] at q
    by_cases hd : b = dx
    · subst hd
      rw [upd_same] at q
      cases q
      exact exd_ok hn (relO_put (fs := []) ry fun g => True.intro)
    · rw [upd_ne hd] at q
      exact (I.hok b o q).stay (fun c v hc z => k c v (by
          rcases hc with hc | hc
          · rw [hc]
            exact hb
          · exact at_ne e hc exo_own) z)
        (fun c hc => by rw [upd_ne (at_ne e hc exo_own), upd_ne (ne_of_none hc hnd)]; exact hc) (fun c xs hc => by rw [upd_ne (at_ne e hc exo_tup), upd_ne (ne_of_none hc hnd)]; exact hc)
/-- LookupError.__init__(self, ..) -/
theorem oinit_okL {us : List Value} {Q : Value → Shared → Prop} (T : OexL X.K C) (I : Inv X pins σ H s) (e : H a = some (exo a C none)) (hl : us.length ≤ sizeLine) (h : ∀ s', Inv X pins σ H s' → Q .none s') :
    wpAny (model X.prog X.w) A (call (.builtin "LookupError.__init__") (.ref a :: us)) Q E s := by
  obtain ⟨nm, N, qn, bs, bm, hdct, sn, sub, ab, col, dd, k0, k1, k2, k3, k5, hC, hT⟩ := PySem.W.excInit_of I.kIn T.init
  obtain ⟨t1, ho⟩ := exo_at I.hok e
  obtain ⟨hp, g, d, t, os⟩ := s
  refine wpAny_call (PySem.HandSPX.init_base F.excBase_LookupError hT hC ho hl fun h' t2 k hx => ?_)
  have J := I.write (t' := t) (x := a) (e := a) (o := exo a C none) (by rw [e]; exact True.intro) (.inl rfl) k ⟨_, hx⟩ (exo_ok hx)
  have eu : upd H a (exo a C none) = H := by
    funext b
    by_cases hb : b = a
    · rw [hb, upd_same, e]
    · rw [upd_ne hb]
  rw [eu] at J
  exact h _ J
end
def tVeL (K : PySem.W.Frag) (ta : TA) : TE := fun σ H Q => ta σ H fun vs H1 => ∃ (a C : Addr) (ws : List V), vs = .ref a :: ws ∧ ws.length ≤ 1000 ∧ OexL K C ∧ H1 a = some (exo a C none) ∧ Q .non H1
def tOstL (K : PySem.W.Frag) (to te : TE) : TS := fun D σ H => te σ H fun y H1 => to σ H1 fun x H2 => ∃ a C : Addr, x = .ref a ∧ OexL K C ∧ H2 a = some (exo a C none) ∧ ∀ dx, H2 dx = none → dx ≠ a → D.nx σ (upd (upd H2 dx (exd dx [(("found" : Str), y)])) a (exo a C (some dx)))
theorem ps_ostL {X : Cx} {o e : Expr} {to te : TE} {p' pos : Pos} (ho : PE X o to) (he : PE X e te) (hs : swapsWith e (some (.Attribute o "found" p')) pos.line X.env = pure false := by rfl) : PS X (.Assign [.Attribute o "found" p'] e pos) (tOstL X.K to te) := by
  refine ⟨fun pins s σ H D I h => ?_⟩
  refine plainObj_wpAny_Assign_Attribute (thn (he.run pins s σ H _ I h) fun v s1 ⟨y, H1, I1, r1, q1⟩ => thn (ho.run pins s1 σ H1 _ I1 q1) fun u s2 ⟨x, H2, I2, r2, a, C, ex, T, ea, q⟩ => ?_) hs
  subst ex
  obtain rfl : u = Value.ref a := r2
  exact ost_newL T I2 ea r1 fun dx s' n ne J => ⟨σ, _, J, q dx n ne⟩
def oexL (K : PySem.W.Frag) (C : Addr) : Bool := PySem.W.excInitIn K C tailL "LookupError.__new__" && (PySem.W.excOver K C tailL && (decide (PySem.W.takerIn K C ("found" : Str) = some none) && PySem.W.hasDictIn K C))
theorem oexL_ok {K : PySem.W.Frag} {C : Addr} (q : oexL K C = true) (sa : PySem.W.findIn K (.ref C) "__setattr__" = some (some (.builtin "object.__setattr__"))) (exC : PySem.W.subIn K (.ref C) (.type "BaseException") = some true) (tyC : PySem.W.typeIn K (.ref C) = some (.type "type")) (kC : PySem.W.keepIn K (.ref C) = true) : OexL K C := by
  obtain ⟨a, q⟩ := He.ba q
  obtain ⟨b, q⟩ := He.ba q
  obtain ⟨c, d⟩ := He.ba q
  exact ⟨a, b, of_decide_eq_true c, d, sa, exC, tyC, kC⟩
/-- the base class at B -/
structure ExB (K : PySem.W.Frag) (mg : Str → Option Value) (n : Str) (B : Addr) : Prop where
  g : mg n = some (.ref B)
  rd : PySem.W.readsIn K B (.type "type") = true
  sp : PySem.W.specialIn K (.ref B) "__getattribute__" = some (some (.builtin "type.__getattribute__"))
  vV : PySem.W.findCls K (.ref B) (.type "type") "__init__" = some (.val (.builtin "LookupError.__init__"))
/-- an own exception class at C, its __init__ at fI -/
structure ExK (K : PySem.W.Frag) (mg : Str → Option Value) (n : Str) (C fI : Addr) : Prop where
  g : mg n = some (.ref C)
  T : OexL K C
  E : ExcC K C
  iC : PySem.W.findIn K (.ref C) "__init__" = some (some (.ref fI))
  tI : PySem.W.typeIn K (.ref fI) = some (.type "function")
  no : PySem.W.findIn K (.ref C) "found" = some none
/-! ### the facts, by looking -/
def exbB (n : Str) (K : PySem.W.Frag) : Bool := PySem.W.readsIn K (He.ga K n) (.type "type") && (He.eqO (PySem.W.specialIn K (.ref (He.ga K n)) "__getattribute__") (some (some (.builtin "type.__getattribute__"))) && isVal (PySem.W.findCls K (.ref (He.ga K n)) (.type "type") "__init__") "LookupError.__init__")
def exkB (n : Str) (K : PySem.W.Frag) : Bool :=
  let C := He.ga K n
  oexL K C && (He.eqO (PySem.W.findIn K (.ref C) "__setattr__") (some (some (.builtin "object.__setattr__"))) && (eqB (PySem.W.subIn K (.ref C) (.type "BaseException")) (some true) && (eqV (PySem.W.typeIn K (.ref C)) (some (.type "type")) && (PySem.W.keepIn K (.ref C) &&
  (He.eqO (PySem.W.findIn K (.ref C) "__getattribute__") (some (some (.builtin "BaseException.__getattribute__"))) && (He.eqO (PySem.W.findIn K (.ref C) "__getattr__") (some none) && (PySem.W.hasDictIn K C &&
  (He.eqO (PySem.W.findIn K (.ref C) "__class__") (some (some (.builtin "object.__class__"))) && (He.eqO (PySem.W.specialIn K (.builtin "object.__class__") "__get__") (some (some (.builtin "getset_descriptor.__get__"))) && (eqB (PySem.W.takesIn K (.builtin "object.__class__")) (some true) && (eqB (PySem.W.mroIn K C (.type "object")) (some true) &&
  (He.eqO (PySem.W.findIn K (.ref C) "__init__") (some (some (.ref (He.ma K C "__init__")))) && (eqV (PySem.W.typeIn K (.ref (He.ma K C "__init__"))) (some (.type "function")) && He.eqO (PySem.W.findIn K (.ref C) "found") (some none))))))))))))))
section
variable {K : PySem.W.Frag} {h : Heap} {mg : Str → Option Value}
theorem exb_ok (X : K.In h) (G : h.Ns mainGlobals mg) {n : Str} (c1 : (He.Fa.glo n).ok K = true) (c : exbB n K = true) : ExB K mg n (He.ga K n) := by
  obtain ⟨a, c⟩ := He.ba c
  obtain ⟨b, d⟩ := He.ba c
  exact ⟨He.glo_ok X G c1, a, He.eqO_ok b, isVal_ok d⟩
theorem exk_ok (X : K.In h) (G : h.Ns mainGlobals mg) {n : Str} (c1 : (He.Fa.glo n).ok K = true) (c : exkB n K = true) : ExK K mg n (He.ga K n) (He.ma K (He.ga K n) "__init__") := by
  obtain ⟨a1, c⟩ := He.ba c
  obtain ⟨a2, c⟩ := He.ba c
  obtain ⟨a3, c⟩ := He.ba c
  obtain ⟨a4, c⟩ := He.ba c
  obtain ⟨a5, c⟩ := He.ba c
  obtain ⟨a6, c⟩ := He.ba c
  obtain ⟨a7, c⟩ := He.ba c
  obtain ⟨a8, c⟩ := He.ba c
  obtain ⟨a9, c⟩ := He.ba c
  obtain ⟨a10, c⟩ := He.ba c
  obtain ⟨a11, c⟩ := He.ba c
  obtain ⟨a12, c⟩ := He.ba c
  obtain ⟨a13, c⟩ := He.ba c
  obtain ⟨a14, a15⟩ := He.ba c
  exact ⟨He.glo_ok X G c1, oexL_ok a1 (He.eqO_ok a2) (of_decide_eq_true a3) (of_decide_eq_true a4) a5, ⟨He.eqO_ok a6, He.eqO_ok a7, of_decide_eq_true a3, a8, He.eqO_ok a9, He.eqO_ok a10, of_decide_eq_true a11, of_decide_eq_true a12⟩, He.eqO_ok a13, of_decide_eq_true a14, He.eqO_ok a15⟩
end
/-! ### __init__ -/
section
variable {X : Cx} {o e : Expr} {es : List Expr} {to te : TE} {ta : TA} {f : Str} {p p' p1 p2 pos : Pos} {C fI B : Addr} {n x : Str}
/-- B.__init__(self, ..), B an own class without an __init__ of its own -/
theorem pe_binit {pl : Sem Bool} (T : ExB X.K X.mg n B) (hg : Gl X n) (ha : PA X (e :: es) ta) (hdb : (n == ("__debug__" : Str)) = false := by decide)
    (hc : eval (.Call (.Attribute (.Name n p1) "__init__" p2) (e :: es) [] pos) X.env = (do
      let ov ← eval (.Name n p1) X.env
      standAt p2.atName
      let (f, first) ← holding [ov] (getMethod ov "__init__" pl)
      callWith pos f first (backTo pos (starEach (e :: es) X.env)) (backToKw pos (keywordEach [] X.env))) := by rfl)
    (he : starEach (e :: es) X.env = (false, eval e X.env) :: starEach es X.env := by rfl) (hpl : (backTo pos (starEach es X.env)).any (·.1) = false := by rfl) :
    PE X (.Call (.Attribute (.Name n p1) "__init__" p2) (e :: es) [] pos) (tVeL X.K ta) := by
  refine ⟨fun pins s σ H Q I h => ?_⟩
  refine PySem.W.methodCall_KW (ld_glob I hg T.g ?_ hdb) hc
  refine PySem.W.method_cls I.kIn T.sp ?_
  refine PySem.W.cls_value I.kIn T.rd T.vV (by decide +kernel) ?_
  show wpAny _ _ (callWith pos (Value.builtin "LookupError.__init__") [] (backTo pos (starEach (e :: es) X.env)) []) _ _ _
  refine PyProof.Rows.callWith_method1 (thn (ha.run pos pins _ σ H _ (I.tok _) h) fun us s1 ⟨vs, H1, I1, r1, a, C, ws, ev, hl, T, ea, q⟩ => ?_) he hpl
  subst ev
  cases r1 with
  | @cons _ u0 _ ur ra rw' =>
    obtain rfl : u0 = Value.ref a := ra
    have hlen : ur.length ≤ sizeLine := by
      rw [← Paired.length rw', sizeLine_eq]
      omega
    exact oinit_okL T I1 ea hlen fun s' J => ⟨.non, H1, J, rfl, q⟩
end
/-- __init__(self, found) -/
def spInit (K : PySem.W.Frag) (C : Addr) : Sp := fun vs H Q _ => ∃ (a : Addr) (v : V), vs = [.ref a, v] ∧ OexL K C ∧ PySem.W.findIn K (.ref C) "found" = some none ∧ H a = some (exo a C none) ∧
  ∀ d, H d = none → d ≠ a → Q .non (upd (upd H d (exd d [(("found" : Str), v)])) a (exo a C (some d)))
theorem spInit_len {K : PySem.W.Frag} {C : Addr} {vs : List V} {H : Hp} {Q : VK} {E : XK} (h : spInit K C vs H Q E) : vs.length = (["self", "found"] : List Str).length := by
  obtain ⟨a, v, rfl, _⟩ := h
  rfl
theorem init_plain {K : PySem.W.Frag} {C : Addr} {z : Str} {vs : List V} {H : Hp} {Q : VK} {E : XK} (h : spInit K C vs H Q E) :
    tSeq (tDrop (tVeL K (tCons (tVar 0) (tCons (tC (.str z)) tNil)))) (tOstL K (tVar 0) (tVar 1)) { nx := fun _ H' => Q .non H', rt := Q } (start ["self", "found"] vs) H := by
  obtain ⟨a, v, rfl, T, no, ea, k⟩ := h
  exact ⟨_, rfl, a, C, [.str z], rfl, (show 1 ≤ 1000 by decide), T, ea, ⟨_, rfl, _, rfl, a, C, rfl, T, ea, k⟩⟩
/-! ### an exception as a value -/
/-- what init leaves, seen from the maker -/
theorem init_use {K : PySem.W.Frag} {mg : Str → Option Value} {n : Str} {C fI a : Addr} {v : V} {H : Hp} {Q : VK} {E : XK} (T : ExK K mg n C fI) (h : ∀ d, H d = none → d ≠ a → Q .non (upd (upd H d (exd d [(("found" : Str), v)])) a (exo a C (some d)))) :
    spInit K C [.ref a, v] (upd H a (exo a C none)) Q E :=
  ⟨a, v, rfl, T.T, T.no, upd_same, fun d hd ne => by
    rw [upd_end ne]
    rw [upd_ne ne] at hd
    exact h d hd ne⟩
section
variable {X : Cx} {e : Expr} {te : TE} {ta : TA} {p pos : Pos} {C fI : Addr} {n : Str} {k : Nat}
/-- the call itself -/
theorem run_exc {pins : List (Addr × Obj)} {σ : L2.St} {H1 : Hp} {s1 : Shared} {v : V} {u : Value} {Q : Value → Shared → Prop} (T : ExK X.K X.mg n C fI) (F1 : FnOk X.prog X.w X.K X.mg X.base CX0 k fI (fdOf X.K fI) ["self", "found"] (spInit X.K C)) (hb : Binds X.K (fdOf X.K fI) ["self", "found"] []) (hr : Room (k + 1) X.A)
    (I1 : Inv X pins σ H1 s1) (rv : RelV v u) (q : ∀ (a d : Addr) (hp2 h2 : Heap) (g2 : Array GenState) (d2 : Drawn) (t2 : Nat) (os2 : OsState), H1 a = none → H1 d = none → d ≠ a → s1.heap.objs.size ≤ a → (∀ b o, s1.heap.get? b = some o → hp2.get? b = some o) →
      Un (frs X.stack) [] (upd H1 a (exo a C none)) (upd (upd H1 d (exd d [(("found" : Str), v)])) a (exo a C (some d))) hp2 h2 → HOk X.prog X.w (upd (upd H1 d (exd d [(("found" : Str), v)])) a (exo a C (some d))) h2 → os2 = s1.os → AllBare g2 →
      Inv X pins σ (upd (upd H1 d (exd d [(("found" : Str), v)])) a (exo a C (some d))) ⟨h2, g2, d2, t2, os2⟩ → Q (.ref a) ⟨h2, g2, d2, t2, os2⟩) :
    wpAny (model X.prog X.w) X.A (call (.ref C) [u]) Q X.xe s1 := by
  obtain ⟨nm, N, qn, bs, bm, hdct, sn, sub, ab, col, dd, k0, k1, k2, k3, k5, hC, hT⟩ := PySem.W.excInit_of I1.kIn T.T.init
  obtain ⟨hp, g, dr, tk, os⟩ := s1
  have hsz : hp.objs.size ≤ hp.objs.size + 1 := Nat.le_succ _
  have hn : H1 (hp.objs.size + 1) = none := I1.hok.fresh hsz
  have kk : ∀ b o, hp.get? b = some o → ((hp.push (PySem.W.kdv_tup [u])).push (PySem.HandSPX.excO C hp.objs.size)).get? b = some o := fun b o e => Heap.get?_push_of_some _ (Heap.get?_push_of_some _ e)
  have hget : ((hp.push (PySem.W.kdv_tup [u])).push (PySem.HandSPX.excO C hp.objs.size)).get? (hp.objs.size + 1) = some (PySem.HandSPX.excO C hp.objs.size) := by heap_get
  have I2 : Inv X pins σ (upd H1 (hp.objs.size + 1) (exo (hp.objs.size + 1) C none)) ⟨(hp.push (PySem.W.kdv_tup [u])).push (PySem.HandSPX.excO C hp.objs.size), g, dr, tk, os⟩ :=
    I1.laid (t' := tk) (a := hp.objs.size + 1) (o := exo (hp.objs.size + 1) C none) (h' := (hp.push (PySem.W.kdv_tup [u])).push (PySem.HandSPX.excO C hp.objs.size)) kk hsz (exo_ok hget)
  have r2 : Vals [V.ref (hp.objs.size + 1), v] [Value.ref (hp.objs.size + 1), u] := .cons rfl (.cons rv .nil)
  have hus : [u].length ≤ sizeLine := by
    rw [sizeLine_eq]
    exact (by decide : 1 ≤ 16777216)
  have sp1 : spInit X.K C [.ref (hp.objs.size + 1), v] (upd H1 (hp.objs.size + 1) (exo (hp.objs.size + 1) C none)) (fun w H2 => w = .non ∧ ∃ d, H1 d = none ∧ d ≠ hp.objs.size + 1 ∧ H2 = upd (upd H1 d (exd d [(("found" : Str), v)])) (hp.objs.size + 1) (exo (hp.objs.size + 1) C (some d))) (fun _ _ _ => False) :=
    init_use T fun d hd ne => ⟨rfl, d, hd, ne, rfl⟩
  refine wpAny_call (PySem.HandSPX.call_own F.excBase_LookupError hT hC (PySem.W.looks_findIn I1.kIn T.iC) (fun self => PySem.W.bind_fn I1.kIn self T.tI) hus
    (codeAny_mono (F1.run _ X.stack _ _ ⟨[Value.ref (hp.objs.size + 1), u], []⟩ [Value.ref (hp.objs.size + 1), u] _ _ (fun _ _ _ => False) (hr.make C [u] []) (I2.env0.make C [u] []) (hb _ [Value.ref (hp.objs.size + 1), u] I2.kIn rfl) r2 sp1) fun r s' hq' => ?_))
  cases r with
  | error er => exact hq'.elim
  | ok fl =>
    cases fl with
    | ret z =>
      have hq0 := hq'
      obtain ⟨w, H2, os2, bare2, un2, hok2, rw', ew, d, hd1, ne, e2⟩ := hq'
      subst ew e2
      obtain ⟨w', H3, J, rw2, ew2, d', hd', ne', e3⟩ := I2.after hq0
      subst ew2
      obtain ⟨h2, g2, d2, t2, os'⟩ := s'
      refine ⟨rw', q _ d _ h2 g2 d2 t2 os' hn hd1 ne hsz kk un2 hok2 os2 bare2 ?_⟩
      exact I2.call' (ch := []) os2 un2 hok2 bare2 (fun b z => absurd z (by simp))
    | next => exact False.elim hq'
    | brk => exact False.elim hq'
    | cont => exact False.elim hq'
theorem pe_mkX (T : ExK X.K X.mg n C fI) (F1 : FnOk X.prog X.w X.K X.mg X.base CX0 k fI (fdOf X.K fI) ["self", "found"] (spInit X.K C)) (hb : Binds X.K (fdOf X.K fI) ["self", "found"] []) (hr : Room (k + 1) X.A) (hg : Gl X n) (ha : PA X [e] ta)
    (hdb : (n == ("__debug__" : Str)) = false := by decide) (he : starEach [e] X.env = (false, eval e X.env) :: starEach [] X.env := by rfl) (hpl : (backTo pos (starEach [] X.env)).any (·.1) = false := by rfl) :
    PE X (.Call (.Name n p) [e] [] pos) (tMkE C ta) := by
  refine ⟨fun pins s σ H Q I h => ?_⟩
  refine wpAny_Call_Name_kw (ld_glob I hg T.g ?_ hdb)
  refine PySem.W.callWith_K (h₀ := X.base) I.ok.mod.kin T.T.kC (thn (ha.run pos pins s σ H _ I h) fun us s1 ⟨vs, H1, I1, r1, v, ev, q1⟩ => ⟨I1.kIn, ?_⟩) he hpl
  subst ev
  cases r1 with
  | @cons _ u _ us rv rn =>
    cases rn
    show wpAny _ _ (call (.ref C) [u]) _ _ _
    exact run_exc T F1 hb hr I1 rv fun a d hp2 h2 g2 d2 t2 os2 ha hd ne _ _ _ _ _ _ J => ⟨.ref a, _, J, rfl, q1 a d ha hd ne⟩
theorem pmk_X (T : ExK X.K X.mg n C fI) (F1 : FnOk X.prog X.w X.K X.mg X.base CX0 k fI (fdOf X.K fI) ["self", "found"] (spInit X.K C)) (hb : Binds X.K (fdOf X.K fI) ["self", "found"] []) (hr : Room (k + 1) X.A) (hg : Gl X n) (ha : PA X [e] ta)
    (hdb : (n == ("__debug__" : Str)) = false := by decide) (he : starEach [e] X.env = (false, eval e X.env) :: starEach [] X.env := by rfl) (hpl : (backTo pos (starEach [] X.env)).any (·.1) = false := by rfl) :
    PMk X (.Call (.Name n p) [e] [] pos) (tMkX C ta) := by
  intro pins s σ H Q I h
  refine wpAny_Call_Name_kw (ld_glob I hg T.g ?_ hdb)
  refine PySem.W.callWith_K (h₀ := X.base) I.ok.mod.kin T.T.kC (thn (ha.run pos pins s σ H _ I h) fun us s1 ⟨vs, H1, I1, r1, v, ev, q1⟩ => ⟨I1.kIn, ?_⟩) he hpl
  subst ev
  cases r1 with
  | @cons _ u _ us rv rn =>
    cases rn
    show wpAny _ _ (call (.ref C) [u]) _ _ _
    refine run_exc T F1 hb hr I1 rv fun a d hp2 h2 g2 d2 t2 os2 ha hd ne hsz kk un hok eo hb2 J => ?_
    obtain ⟨hp, g, dr, tk, os⟩ := s1
    refine mk_end (fs := [(("found" : Str), v)]) (hp2 := hp2) (os1 := os) (raises_own T.T.exC T.T.tyC) I1 hsz kk un hok eo hb2 upd_same (by rw [upd_ne ne, upd_same]) hd ?_
    have e1 : upd (del (upd (upd H1 d (exd d [(("found" : Str), v)])) a (exo a C (some d))) a) d (.xd [(("found" : Str), v)]) = upd H1 d (.xd [(("found" : Str), v)]) := by
      funext b
      by_cases h1 : b = d
      · rw [h1, upd_same, upd_same]
      · rw [upd_ne h1, upd_ne h1]
        by_cases h2 : b = a
        · rw [h2, del_same, ha]
        · rw [del_ne h2, upd_ne h2, upd_ne h1]
    rw [e1]
    exact q1 d hd
theorem ps_raiseX {W : L2.WX} {pos2 : Pos} (hc : X.calm = true) (tk : Takes X W) (T : ExK X.K X.mg n C fI) (F1 : FnOk X.prog X.w X.K X.mg X.base CX0 k fI (fdOf X.K fI) ["self", "found"] (spInit X.K C)) (hb : Binds X.K (fdOf X.K fI) ["self", "found"] []) (hr : Room (k + 1) X.A) (hg : Gl X n) (ha : PA X [e] ta)
    (hdb : (n == ("__debug__" : Str)) = false := by decide) (he : starEach [e] X.env = (false, eval e X.env) :: starEach [] X.env := by rfl) (hpl : (backTo pos (starEach [] X.env)).any (·.1) = false := by rfl) :
    PS X (.Raise (some (.Call (.Name n p) [e] [] pos)) none pos2) (tRaiseX C W ta) := ps_raise hc tk (pmk_X T F1 hb hr hg ha hdb he hpl)
end
end LE
end Wk

set_option maxRecDepth 100000
set_option maxHeartbeats 4000000
/-! Calls with keywords and with defaults; isinstance, one rule. -/
namespace Wk
open PySem PySem.Spec PyProof.Rows L2
/-- values picked by places -/
def gI {α : Type} (idx : List Nat) (l : List α) : List α := idx.filterMap fun i => l[i]?
theorem vals_gI {vs : List V} {us : List Value} (r : Vals vs us) : ∀ idx : List Nat, Vals (Wk.gI idx vs) (Wk.gI idx us)
  | [] => .nil
  | i :: idx => by
    unfold Wk.gI
    rw [List.filterMap_cons, List.filterMap_cons]
    have ih := vals_gI r idx
    unfold Wk.gI at ih
    have one : ∀ {vs : List V} {us : List Value} (i : Nat), Vals vs us → (vs[i]? = none ∧ us[i]? = none) ∨ ∃ v u, vs[i]? = some v ∧ us[i]? = some u ∧ RelV v u := by
      intro vs us i r
      induction r generalizing i with
      | nil => exact .inl ⟨rfl, rfl⟩
      | cons a b ih =>
        cases i with
        | zero => exact .inr ⟨_, _, rfl, rfl, a⟩
        | succ j => exact ih j
    rcases one i r with ⟨e1, e2⟩ | ⟨v, u, e1, e2, rr⟩
    · rw [e1, e2]
      exact ih
    · rw [e1, e2]
      exact .cons rr ih
/-- n positional values and keywords ks bind; gV puts all values in the parameters' order -/
def KB (K : PySem.W.Frag) (fd : FuncData) (ps : List Str) (n : Nat) (ks : List Str) (gV : List V → List V → List V) : Prop := ∃ g, KBn K fd ps n ks g gV
section
variable {K : PySem.W.Frag} {x qual : Str} {st : Stmt} {dvs : List V} {f : Addr} {ps ks : List Str} {n : Nat}
/-- no defaults -/
theorem kb_n (F : FD K x qual st [] f) (g : {α : Type} → List α → List α → List α) (hrel : ∀ {vs zs : List V} {us ws : List Value}, Vals vs us → Vals zs ws → Vals (g vs zs) (g us ws))
    (h : ∀ (kV doc pm : Value) (an : Option Addr) (cdv ct : Value) (us ws : List Value), us.length = n → ws.length = ks.length → bindArgs (PySem.W.fnOf x qual (defArgs st) (defBody st) (defScope st) .none kV doc pm an cdv ct) ⟨us, ks.zip ws⟩ = pure (ps.zip (g us ws))) :
    KB K (fdOf K f) ps n ks g := by
  obtain ⟨oc, od, dV, kV, doc, pm, an, cdv, ct, osl, e, lk, hcd, hD, hK⟩ := FunD.ex F
  refine ⟨g, ⟨fun s us ws X l1 l2 => ?_, fun r1 r2 => hrel r1 r2⟩⟩
  rw [e]
  rcases hD with ⟨_, rfl⟩ | ⟨e, _⟩
  · exact .of_eq (h kV doc pm an cdv ct us ws l1 l2)
  · exact absurd rfl e
/-- defaults -/
theorem kb_d (F : FD K x qual st dvs f) (hd : dvs ≠ []) (g : {α : Type} → List α → List α → List α → List α) (hrel : ∀ {vs ds zs : List V} {us its ws : List Value}, Vals vs us → Vals ds its → Vals zs ws → Vals (g vs ds zs) (g us its ws))
    (h : ∀ (T : Addr) (kV doc pm : Value) (an : Option Addr) (cdv ct : Value) (us its ws : List Value), us.length = n → its.length = dvs.length → ws.length = ks.length →
      ∃ k, bindArgs (PySem.W.fnOf x qual (defArgs st) (defBody st) (defScope st) (.ref T) kV doc pm an cdv ct) ⟨us, ks.zip ws⟩ = seqItems? (.ref T) >>= k ∧ k (some its.toArray) = pure (ps.zip (g us its ws))) :
    KB K (fdOf K f) ps n ks (fun vs zs => g vs dvs zs) := by
  obtain ⟨oc, od, dV, kV, doc, pm, an, cdv, ct, osl, e, lk, hcd, hD, hK⟩ := FunD.ex F
  rcases hD with ⟨e, _⟩ | ⟨_, T, o, its, m, rfl, lT, oT, rT⟩
  · exact absurd e hd
  · refine ⟨fun us ws => g us its ws, ⟨fun s us ws X l1 l2 => ?_, fun r1 r2 => hrel r1 rT r2⟩⟩
    obtain ⟨k, e1, e2⟩ := h T kV doc pm an cdv ct us its ws l1 rT.length.symm l2
    refine BindsTo.of_looks fun M => ?_
    rw [e, e1]
    exact looks_items X lT oT (.of_pure e2)
end
def gCallN (n m : Nat) (sp : Sp) (gV : List V → List V → List V) (E : L2.St → XK) (t tk : TA) : TE := fun σ H Q => t σ H fun vs H1 => tk σ H1 fun zs H2 => vs.length = n ∧ zs.length = m ∧ sp (gV vs zs) H2 Q (E σ)
section
variable {X : Cx} {k n : Nat} {f C : Addr} {ps ks : List Str} {sp : Sp} {E : L2.St → XK} {x m : Str} {p pos apos : Pos} {e o : Expr} {es : List Expr} {kws : List Keyword} {t tk ta : TA} {to : TE} {gV : List V → List V → List V}
theorem run_gN {pins : List (Addr × Obj)} {σ : L2.St} {H : Hp} {s : Shared} {Q : VK} {us ws : List Value} {vs zs : List V} (F : FnG X.prog X.w X.K X.mg X.base k f ps sp) (hgu : X.A.guards = some []) (hr : Room k X.A) (hb : KB X.K (fdOf X.K f) ps n ks gV) (hx : PassG X σ (E σ))
    (I : Inv X pins σ H s) (r : Vals vs us) (rz : Vals zs ws) (l1 : vs.length = n) (l2 : zs.length = ks.length) (h : sp (gV vs zs) H Q (E σ)) : wpAny (model X.prog X.w) X.A (call (.ref f) us (ks.zip ws)) (EP X pins σ Q) X.xe s := by
  obtain ⟨g, hb⟩ := hb
  have r2 := hb.rel r rz
  refine wpAny_call (codeAny_mono (F.run X.A X.stack s H ⟨us, ks.zip ws⟩ (g us ws) (gV vs zs) Q (E σ) hgu hr I.env0 (hb.to s us ws I.kIn (r.length.symm.trans l1) (rz.length.symm.trans l2)) r2 h) fun r s' hq => ?_)
  cases r with
  | error e => exact hx pins H s e s' I hq
  | ok fl =>
    cases fl with
    | ret u => exact I.after hq
    | next => exact False.elim hq
    | brk => exact False.elim hq
    | cont => exact False.elim hq
/-- f(e, .., k = v, ..) -/
theorem ge_callN (F : FnG X.prog X.w X.K X.mg X.base k f ps sp) (hgu : X.A.guards = some []) (hr : Room k X.A) (hg : Gl X x) (hm : X.mg x = some (.ref f)) (hk : PySem.W.keepIn X.K (.ref f) = true) (hb : KB X.K (fdOf X.K f) ps n ks gV) (hx : ∀ σ, PassG X σ (E σ))
    (ha : PA X (e :: es) t) (hkw : PK X kws tk) (hdb : (x == ("__debug__" : Str)) = false := by decide) (hall : (backToKw pos (keywordEach kws X.env)).all (·.1.isSome) = true := by rfl) (hks : (backToKw pos (keywordEach kws X.env)).filterMap (·.1) = ks := by rfl)
    (he : starEach (e :: es) X.env = (false, eval e X.env) :: starEach es X.env := by rfl)
    (hpl : ((backTo pos (starEach (e :: es) X.env)).any (·.1) || (backToKw pos (keywordEach kws X.env)).any (·.1.isNone)) = false := by rfl) :
    PE X (.Call (.Name x p) (e :: es) kws pos) (gCallN n ks.length sp gV E t tk) := by
  refine ⟨fun pins s σ H Q I h => ?_⟩
  refine wpAny_Call_Name_kw (ld_glob I hg hm ?_ hdb)
  refine PySem.W.callWith_KW (h₀ := X.base) I.ok.mod.kin hk hall (thn (ha.run pos pins s σ H _ I h) fun us s1 ⟨vs, H1, I1, r, q⟩ => ?_) hpl he
  refine thn (hkw.run pos pins s1 σ H1 _ I1 q) fun ws s2 ⟨zs, H2, I2, rz, l1, l2, q2⟩ => ⟨I2.kIn, ?_⟩
  rw [hks]
  exact run_gN F hgu hr hb (hx σ) I2 r rz l1 l2 q2
/-- f(k = v, ..) -/
theorem ge_callK (F : FnG X.prog X.w X.K X.mg X.base k f ps sp) (hgu : X.A.guards = some []) (hr : Room k X.A) (hg : Gl X x) (hm : X.mg x = some (.ref f)) (hk : PySem.W.keepIn X.K (.ref f) = true) (hb : KB X.K (fdOf X.K f) ps 0 ks gV) (hx : ∀ σ, PassG X σ (E σ))
    (hkw : PK X kws tk) (hdb : (x == ("__debug__" : Str)) = false := by decide) (hall : (backToKw pos (keywordEach kws X.env)).all (·.1.isSome) = true := by rfl) (hks : (backToKw pos (keywordEach kws X.env)).filterMap (·.1) = ks := by rfl)
    (hpl : ((backTo pos (starEach [] X.env)).any (·.1) || (backToKw pos (keywordEach kws X.env)).any (·.1.isNone)) = false := by rfl) :
    PE X (.Call (.Name x p) [] kws pos) (gCallN 0 ks.length sp gV E tNil tk) := by
  refine ⟨fun pins s σ H Q I h => ?_⟩
  refine wpAny_Call_Name_kw (ld_glob I hg hm ?_ hdb)
  refine PySem.W.callWith_KW0 (h₀ := X.base) I.ok.mod.kin hk hall ?_ hpl
  refine thn (hkw.run pos pins s σ H _ I h) fun ws s2 ⟨zs, H2, I2, rz, l1, l2, q2⟩ => ⟨I2.kIn, ?_⟩
  rw [hks]
  exact run_gN (us := []) (vs := []) F hgu hr hb (hx σ) I2 .nil rz rfl l2 q2
theorem se_callN {σ : L2.St} {H : Hp} {Q : VK} {n m : Nat} (h : t σ H fun vs H1 => tk σ H1 fun zs H2 => vs.length = n ∧ zs.length = m ∧ sp (gV vs zs) H2 Q (E σ)) : gCallN n m sp gV E t tk σ H Q := h
theorem se_call1 {σ : L2.St} {H : Hp} {Q : VK} {dvs : List V} (h : t σ H fun vs H1 => sp (vs ++ dvs) H1 Q (E σ)) : gCall sp dvs E t σ H Q := h
end
/-! ### isinstance -/
inductive Knd where
  | non | bl | int | str | lst | tup | dict | oth
deriving DecidableEq
def Knd.is : Knd → String → Bool
  | .non, n => n == "NoneType"
  | .bl, n => n == "bool" || n == "int"
  | .int, n => n == "int"
  | .str, n => n == "str"
  | .lst, n => n == "list"
  | .tup, n => n == "tuple"
  | .dict, n => n == "dict"
  | .oth, _ => false
def six : List String := ["int", "bool", "str", "list", "tuple", "dict"]
/-- the class's instances are none of the six -/
def Six (K : PySem.W.Frag) (C : Addr) : Prop := ∀ n ∈ six, PySem.W.kitOne K (.ref C) (.type n) = some false
def sixB (x : Str) (K : PySem.W.Frag) : Bool := six.all fun n => eqB (PySem.W.kitOne K (.ref (He.ga K x)) (.type n)) (some false)
theorem six_ok {K : PySem.W.Frag} {x : Str} (h : sixB x K = true) : Six K (He.ga K x) := fun n hn => of_decide_eq_true (List.all_eq_true.mp h n hn)
/-- what the class of an own plain class says, so that isinstance may ask its instances -/
structure InsC (K : PySem.W.Frag) (C : Addr) : Prop where
  cl : Cls K C
  ha : PySem.W.findIn K (.ref C) "__class__" = some (some (.builtin "object.__class__"))
  hn : PySem.W.specialIn K (.builtin "object.__class__") "__get__" = some (some (.builtin "getset_descriptor.__get__"))
  ht : PySem.W.takesIn K (.builtin "object.__class__") = some true
  hm : PySem.W.mroIn K C (.type "object") = some true
/-- a value's kind -/
inductive Kn (K : PySem.W.Frag) (H : Hp) : V → Knd → Prop where
  | non : Kn K H .non .non
  | bl (b : Bool) : Kn K H (.bl b) .bl
  | int (i : Int) : Kn K H (.int i) .int
  | str (x : Str) : Kn K H (.str x) .str
  | lst {a : Addr} {xs : List V} (e : H a = some (.lst xs)) : Kn K H (.ref a) .lst
  | frz {a : Addr} {o : Obj} {xs : List V} (e : H a = some (.frz o (.lst xs))) : Kn K H (.ref a) .lst
  | tup {a : Addr} {xs : List V} (e : H a = some (.tup xs)) : Kn K H (.ref a) .tup
  | dict {a : Addr} {kvs : List (Key × V)} (e : H a = some (.dK kvs)) : Kn K H (.ref a) .dict
  | exc {a d C : Addr} {fs : List (Str × V)} (e : H a = some (exo a C (some d))) (ed : H d = some (exd d fs)) (c : ExcC K C) (s : Six K C) : Kn K H (.ref a) .oth
  | excq {a d C t1 : Addr} {fs : List (Str × V)} (e : H a = some (exq a C (some d) t1)) (ed : H d = some (exd d fs)) (c : ExcC K C) (s : Six K C) : Kn K H (.ref a) .oth
  | ins {a C dx : Addr} {fs : List (Str × V)} (e : H a = some (.ins C dx fs)) (c : InsC K C) (s : Six K C) : Kn K H (.ref a) .oth
theorem Kn.mono {K : PySem.W.Frag} {H H' : Hp} {v : V} {k : Knd} (h : Kn K H v k) (x : Ex H H') : Kn K H' v k := by
  cases h with
  | non => exact .non
  | bl b => exact .bl b
  | int i => exact .int i
  | str z => exact .str z
  | lst e => exact .lst (x _ _ e)
  | frz e => exact .frz (x _ _ e)
  | tup e => exact .tup (x _ _ e)
  | dict e => exact .dict (x _ _ e)
  | exc e ed c s => exact .exc (x _ _ e) (x _ _ ed) c s
  | excq e ed c s => exact .excq (x _ _ e) (x _ _ ed) c s
  | ins e c s => exact .ins (x _ _ e) c s
theorem HI.kn {K : PySem.W.Frag} {H D : Hp} {R : List (Addr × HO)} {v : V} {k : Knd} (h : HI H R D) (r : Kn K D v k) : Kn K H v k := r.mono h.sub
abbrev Six0 (a : String) (k : Knd) : Prop := ∀ n ∈ six, kitB a n = some (k.is n)
section
variable {prog : Program} {w : World} {A : Around} {E : Value → Shared → Prop} {s : Shared} {K : PySem.W.Frag} {x D : Addr} {ox od : Obj}
open PySem.W PySem.Calls in
theorem kin_classX {Q : Option Value → Shared → Prop} (C : ExcC K D)
    (X : K.In s.heap) (I : InstAt s.heap x ox D (some od)) (h : Q (some (.ref D)) { s with toks := s.toks + 1 }) : wpAny (model prog w) A (getAttr? (.ref x) "__class__") Q E s := by
  have hga := C.hg
  have hgt := C.hk
  have hsub := C.hs
  have hdct := C.hd
  have ha := C.ha
  have hn := C.hn
  have htk := C.ht
  have hm := C.hm
  have hf : findObj K D (some od) "__class__" = some (.bind (.builtin "getset_descriptor.__get__") (.builtin "object.__class__")) := findObj_data (by obtain ⟨cd, hc, _⟩ := any_some hdct; rw [hc]; rfl) ha hn htk
  obtain ⟨hp, g, d, t, os⟩ := s
  have L0 := I.type (M := model prog w)
  have L1 := looks_findIn (M := model prog w) X hga
  have L2 := looks_findIn (M := model prog w) X hgt
  have L3 := looks_find (M := model prog w) X I hf
  have sub : Looks (model prog w) hp (isInstance (.ref x) (.type "BaseException")) true := L0.andThen (looks_subIn X hsub)
  have hx0 : (false && onTheHeap (Value.builtin "BaseException.__getattribute__")) = false := rfl
  have hx2 : (Value.builtin "BaseException.__getattribute__" == Value.builtin "object.__getattribute__") = false := by decide +kernel
  have hx1 : (onTheHeap (Value.ref D) && Value.builtin "BaseException.__getattribute__" == Value.builtin "object.__getattribute__") = false := by rw [hx2]; rfl
  unfold getAttr? getAttrBy? getAttrBy
  refine wpAny_bind (wpAny_mkText (wpAny_bind (wpAny_attempt (wpAny_holding (wpAny_bind (L0.at (wpAny_bind (L1.at ?_))))))))
  show wpAny _ _ (if (onTheHeap (Value.ref D) && Value.builtin "BaseException.__getattribute__" == Value.builtin "object.__getattribute__") = true then _ else _) _ _ _
  rw [hx1, if_neg Bool.false_ne_true]
  unfold getAttrByItsOwn hookBefore
  refine wpAny_bind ?_
  rw [if_pos (show onTheHeap (Value.ref D) = true from rfl)]
  refine L2.at ?_
  refine wpAny_bind (wpAny_attempt (wpAny_holding ?_))
  unfold callGetattribute
  rw [hx0, if_neg Bool.false_ne_true]
  unfold boundAndCalled
  rw [PySem.F.excAttr_ValueError.ga.bind (.ref x)]
  refine wpAny_bind (wpAny_pure ?_)
  show wpAny _ _ (call (.builtin "BaseException.__getattribute__") [.ref x, .str "__class__" t]) _ _ _
  refine wpAny_call (codeAny_call_builtin PySem.F.excAttr_ValueError.ga.plain PySem.F.entry_bexc_ga ?_)
  refine @check_slot (model prog w) _ _ ⟨hp, g, d, t + 1, os⟩ "BaseException.__getattribute__" "BaseException" "__getattribute__" (.ref x) [.str "__class__" t] [] _ (by decide +kernel) (by decide +kernel) sub (PySem.F.args_bexc_ga (.ref x) (.str "__class__" t)) ?_
  unfold Builtin.«object.__getattribute__»
  refine wpAny_bind (wpAny_of_eq (a := ((Value.ref x : Value), [Value.str "__class__" t])) (by first | rfl | (simp only [slotArgs]; rfl)) ?_)
  refine wpAny_bind (wpAny_pure (wpAny_bind (L0.at (wpAny_bind (L3.at ?_)))))
  show wpAny _ _ (holding [Value.builtin "object.__class__"] (call (.builtin "getset_descriptor.__get__") [.builtin "object.__class__", .ref x, .ref D]) >>= ret) _ _ _
  refine wpAny_bind (wpAny_holding (wpAny_call (class_get (s := ⟨hp, g, d, t + 1, os⟩) (ox := ox) (od := some od) X I hm ?_)))
  refine wpAny_pure ?_
  show wpAny _ _ (handedOut (.ref D)) _ _ _
  rw [handedOut_of (v := .ref D) rfl]
  first
    | exact wpAny_pure (wpAny_pure h)
    | exact wpAny_pure h
    | exact wpAny_pure (wpAny_bind (wpAny_pure (wpAny_pure h)))
open PySem.W PySem.Calls in
theorem kitx_X (C : ExcC K D) : KitX K (.ref x) (.ref D) (fun h => InstAt h x ox D (some od)) where
  ty := fun _ _ _ I => I.type
  it := fun _ _ X _ => by
    obtain ⟨cdD, hcD, _⟩ := any_some C.hd
    unfold clsIn at hcD
    split at hcD
    · rename_i c' d' cd' sl' ho
      intro A' Q' E' s' k q
      unfold isType loadHead
      exact wpAny_bind (wpAny_loadPart (k _ _ (X _ _ ho)) (wpAny_pure q))
    · cases hcD
  ne := fun h tp dd its n sl X htp => by
    obtain ⟨cdD, hcD, _⟩ := any_some C.hd
    refine Bool.eq_false_iff.mpr fun q => ?_
    have e : D = tp := Value.ref.inj (beq_iff_eq.mp q)
    subst e
    unfold clsIn at hcD
    split at hcD
    · rename_i c' d' cd' sl' ho
      have z := (X _ _ ho).symm.trans htp
      cases z
    · cases hcD
  ca := fun X I k => kin_classX C X I k
end
section
variable {X : Cx} {pins : List (Addr × Obj)} {σ : L2.St} {H : Hp} {s : Shared}
/-- the type of such a value, and what the library's rules ask -/
theorem kn_of {v : V} {u : Value} {k : Knd} (I : Inv X pins σ H s) (rx : RelV v u) (h : Kn X.K H v k) :
    ∃ (t : Value) (P : Heap → Prop), PySem.W.KitX X.K u t P ∧ P s.heap ∧ u ≠ .builtin "__main__.__loader__#opaque" ∧ ∀ n ∈ six, PySem.W.kitOne X.K t (.type n) = some (k.is n) := by
  have go : ∀ {t : Value}, TyX X.K H v t → (∀ n ∈ six, PySem.W.kitOne X.K t (.type n) = some (k.is n)) → ∃ (t : Value) (P : Heap → Prop), PySem.W.KitX X.K u t P ∧ P s.heap ∧ u ≠ .builtin "__main__.__loader__#opaque" ∧ ∀ n ∈ six, PySem.W.kitOne X.K t (.type n) = some (k.is n) := fun ty hk => by
    obtain ⟨P, Z, p, hx⟩ := kit_of I rx ty
    exact ⟨_, P, Z, p, hx, hk⟩
  have b : ∀ {a : String}, Six0 a k → ∀ n ∈ six, PySem.W.kitOne X.K (.type a) (.type n) = some (k.is n) := fun h n hn => kit_ty (h n hn)
  cases h with
  | non => exact go (.base .non) (b (by decide +kernel))
  | bl c => exact go (.base (.bl c)) (b (by decide +kernel))
  | int i => exact go (.base (.int i)) (b (by decide +kernel))
  | str z => exact go (.base (.str z)) (b (by decide +kernel))
  | lst e => exact go (.base (.lst e)) (b (by decide +kernel))
  | frz e => exact go (.base (.frz e)) (b (by decide +kernel))
  | tup e => exact go (.base (.tup e)) (b (by decide +kernel))
  | dict e => exact go (.base (.dK e)) (b (by decide +kernel))
  | ins e c s => exact go (.base (.ins e c.cl c.ha c.hn c.ht c.hm)) s
  | @exc a d C fs e ed c s =>
    cases (show u = Value.ref a from rx)
    obtain ⟨t1, ho⟩ := exo_at I.hok e
    obtain ⟨mA, hns, rel⟩ := exd_at I.hok ed
    obtain ⟨oD, _, _, hoD, _, _⟩ := hns.count (within_of rel)
    exact ⟨_, _, kitx_X (od := oD) c, ⟨ho, rfl, rfl, hoD⟩, (fun z => nomatch z), s⟩
  | @excq a d C t1 fs e ed c s =>
    cases (show u = Value.ref a from rx)
    have ho := exq_at I.hok e
    obtain ⟨mA, hns, rel⟩ := exd_at I.hok ed
    obtain ⟨oD, _, _, hoD, _, _⟩ := hns.count (within_of rel)
    exact ⟨_, _, kitx_X (od := oD) c, ⟨ho, rfl, rfl, hoD⟩, (fun z => nomatch z), s⟩
end
/-- isinstance(x, T), T one of the six -/
inductive RIsi (K : PySem.W.Frag) : List V → Hp → VK → Prop
  | ty {x : V} {n : String} {k : Knd} {H : Hp} {Q : VK} : Kn K H x k → n ∈ six → Q (.bl (k.is n)) H → RIsi K [x, .ty n] H Q
/-- isinstance(x, (T, ..)) -/
inductive RIsiT (K : PySem.W.Frag) : List V → Hp → VK → Prop
  | ty {x : V} {p : Addr} {ns : List String} {k : Knd} {H : Hp} {Q : VK} : Kn K H x k → H p = some (.tup (ns.map V.ty)) → (∀ n ∈ ns, n ∈ six) → Q (.bl (ns.any k.is)) H → RIsiT K [x, .ref p] H Q
theorem kitAny_map {K : PySem.W.Frag} {t : Value} {k : Knd} (h : ∀ n ∈ six, PySem.W.kitOne K t (.type n) = some (k.is n)) : ∀ ns : List String, (∀ n ∈ ns, n ∈ six) → PySem.W.kitAny K t (ns.map Value.type) = some (ns.any k.is)
  | [], _ => rfl
  | n :: ns, hn => by
    refine kitAny_cons (h n (hn n (List.mem_cons_self ..))) (fun e => ?_) fun e => ?_
    · rw [List.any_cons, e, Bool.false_or]
      exact kitAny_map h ns fun m hm => hn m (List.mem_cons_of_mem _ hm)
    · rw [List.any_cons, e, Bool.true_or]
theorem clsV_map : ∀ ns : List String, Paired ClsV (ns.map V.ty) (ns.map Value.type)
  | [] => .nil
  | n :: ns => .cons (.ty n) (clsV_map ns)
section
variable {X : Cx}
theorem call_isiU : CallR X (.builtin "isinstance") (RIsi X.K) := by
  intro pins s σ H xs us Q I r h
  cases h with
  | ty kn hn q =>
    obtain ⟨u1, u2, rfl, r1, r2⟩ := vals2 r
    cases (show u2 = Value.type _ from r2)
    obtain ⟨t, P, Z, p, hx, hk⟩ := kn_of I r1 kn
    exact PySem.W.kia_one Z I.kIn p (hk _ hn) hx fun tk => ⟨.bl _, H, I.tok tk, rfl, q⟩
theorem call_isiTU : CallR X (.builtin "isinstance") (RIsiT X.K) := by
  intro pins s σ H xs us Q I r h
  cases h with
  | @ty x tp ns k _ _ kn hT hn q =>
    obtain ⟨u1, u2, rfl, r1, r2⟩ := vals2 r
    cases (show u2 = Value.ref tp from r2)
    obtain ⟨t, P, Z, p, hx, hk⟩ := kn_of I r1 kn
    obtain ⟨_, its, rv, o, h1, h2, n, h3⟩ := (show ObjOk X.prog X.w H s.heap tp (.tup (ns.map V.ty)) from I.hok tp _ hT)
    have e3 := ClsV.all (clsV_map ns) rv
    subst e3
    obtain ⟨oc, od, dt, sl⟩ := o
    simp only at h2 h3
    subst h2 h3
    exact PySem.W.kia_tup Z I.kIn p h1 (kitAny_map hk ns hn) hx fun tk => ⟨.bl _, H, I.tok tk, rfl, q⟩
end
end Wk

set_option maxRecDepth 100000
set_option maxHeartbeats 4000000
/-! More steps through a reading. -/
namespace Wk
open PySem PySem.Spec PyProof.Rows L2
section
variable {K : PySem.W.Frag} {σ : L2.St} {H : Hp} {Q : VK} {ta tb tc te to : TE} {t tk : TA} {tl th : TO} {D : Ends}
theorem se_andV (h : ta σ H fun x H1 => ∃ c, x = .bl c ∧ if c = true then tb σ H1 Q else Q (.bl false) H1) : tAndV ta tb σ H Q := h
theorem se_orV (h : ta σ H fun x H1 => ∃ c, x = .bl c ∧ if c = true then Q (.bl true) H1 else tb σ H1 Q) : tOrV ta tb σ H Q := h
theorem se_notV (h : ta σ H fun x H1 => ∃ c, x = .bl c ∧ Q (.bl (!c)) H1) : tNotV ta σ H Q := h
theorem se_chain {r r' : R2} (h : ta σ H fun x H1 => tb σ H1 fun y H2 => r x y H2 fun z H3 => ∃ k, z = .bl k ∧ (if k = true then tc σ H3 fun w' H4 => r' y w' H4 Q else Q (.bl false) H3)) : tChain r r' ta tb tc σ H Q := h
theorem se_sl {r : V → Option Int → Option Int → Hp → VK → Prop} (h : te σ H fun x H1 => tl σ H1 fun l H2 => th σ H2 fun u H3 => r x l u H3 Q) : tSl r te tl th σ H Q := h
theorem so_none {P : Option Int → Hp → Prop} (h : P none H) : tNoPart σ H P := h
theorem so_some {P : Option Int → Hp → Prop} (h : te σ H fun x H1 => ∃ i, x = .int i ∧ P (some i) H1) : tPart te σ H P := h
theorem so_int {i : Int} {P : Int → Prop} (h : P i) : ∃ j, V.int i = .int j ∧ P j := ⟨i, rfl, h⟩
theorem se_m1 {r : V → List V → Hp → VK → Prop} (h : to σ H fun x H1 => (∃ a, x = .str a) ∧ te σ H1 fun y H2 => r x [y] H2 Q) : tM1 r to te σ H Q := h
theorem se_m0 {r : V → List V → Hp → VK → Prop} (h : to σ H fun x H1 => (∃ a, x = .str a) ∧ r x [] H1 Q) : tM0 r to σ H Q := h
theorem m_str {z : Str} {A : Prop} (h : A) : (∃ a, V.str z = .str a) ∧ A := ⟨⟨z, rfl⟩, h⟩
def MkEP (C : Addr) (vs : List V) (H : Hp) (Q : VK) : Prop := ∃ v, vs = [v] ∧ ∀ a d, H a = none → H d = none → d ≠ a → Q (.ref a) (upd (upd H d (exd d [(("found" : Str), v)])) a (exo a C (some d)))
def MkXP (C : Addr) (vs : List V) (H : Hp) (Q : XK) : Prop := ∃ v, vs = [v] ∧ ∀ d, H d = none → Q (.ref C) (some d) (upd H d (.xd [(("found" : Str), v)]))
theorem se_mkE {C : Addr} (h : t σ H fun vs H1 => MkEP C vs H1 Q) : tMkE C t σ H Q := h
theorem mkE_now {H D : Hp} {R : List (Addr × HO)} {v : V} {C : Addr} {Q : VK} (h : HI H R D) (k : ∀ a d H' D', HI H' R D' → Ex D D' → D' a = some (exo a C (some d)) → D' d = some (exd d [(("found" : Str), v)]) → Q (.ref a) H') : MkEP C [v] H Q := mkE_use h k
theorem st_raiseX {C : Addr} {W : L2.WX} (h : t σ H fun vs H1 => MkXP C vs H1 fun cls d H' => W cls d σ H') : tRaiseX C W t D σ H := h
theorem mkX_now {H D : Hp} {R : List (Addr × HO)} {v : V} {C : Addr} {Q : XK} (h : HI H R D) (k : ∀ d H' D', HI H' R D' → Ex D D' → D' d = some (.xd [(("found" : Str), v)]) → Q (.ref C) (some d) H') : MkXP C [v] H Q := mkX_use h k
theorem st_par {i j : Nat} (h : t σ H fun vs H1 => ∃ v w, vs = [v, w] ∧ D.nx ((σ.set i (some v)).set j (some w)) H1) : tPar i j t D σ H := h
theorem par_mk {x y : V} {P : V → V → Prop} (h : P x y) : ∃ v w, [x, y] = [v, w] ∧ P v w := ⟨x, y, rfl, h⟩
theorem st_aug {i : Nat} {ti : TIp} {x : V} (e : σ[i]? = some (some x)) (h : te σ H fun y H1 => ti x y H1 fun z H2 => D.nx (σ.set i (some z)) H2) : tAug i te ti D σ H := ⟨x, e, h⟩
inductive RMx : List V → Hp → VK → Prop
  | mk {i j : Int} {H : Hp} {Q : VK} : (∀ m, i ≤ m → j ≤ m → (m = i ∨ m = j) → Q (.int m) H) → RMx [.int i, .int j] H Q
inductive RMn : List V → Hp → VK → Prop
  | mk {i j : Int} {H : Hp} {Q : VK} : (∀ m, m ≤ i → m ≤ j → (m = i ∨ m = j) → Q (.int m) H) → RMn [.int i, .int j] H Q
inductive RAll : List V → Hp → VK → Prop
  | mk {p : Addr} {bs : List Bool} {H : Hp} {Q : VK} : H p = some (.lst (bs.map V.bl)) → Q (.bl (bs.all id)) H → RAll [.ref p] H Q
inductive RSum : List V → Hp → VK → Prop
  | mk {p : Addr} {ns : List Int} {H : Hp} {Q : VK} : H p = some (.lst (ns.map V.int)) → Q (.int ns.sum) H → RSum [.ref p] H Q
inductive RJoin : V → List V → Hp → VK → Prop
  | mk {z : Str} {p : Addr} {ys : List Str} {H : Hp} {Q : VK} : H p = some (.lst (ys.map V.str)) → (ys.map (·.length)).sum + ys.length * z.length ≤ 16777216 → Q (.str (Txt.join z ys)) H → RJoin (.str z) [.ref p] H Q
inductive RStarts : V → List V → Hp → VK → Prop
  | mk {x y : Str} {H : Hp} {Q : VK} : Q (.bl (Txt.startswith x y)) H → RStarts (.str x) [.str y] H Q
inductive RFind : V → List V → Hp → VK → Prop
  | mk {x y : Str} {H : Hp} {Q : VK} : Q (.int (Txt.find x y)) H → RFind (.str x) [.str y] H Q
/-- str(x) -/
inductive RStr : List V → Hp → VK → Prop
  | int {i : Int} {H : Hp} {Q : VK} : i.natAbs.log2 < 1920 → Q (.str (toString i)) H → RStr [.int i] H Q
/-- int(x) -/
inductive RInt : List V → Hp → VK → Prop
  | bl {b : Bool} {H : Hp} {Q : VK} : Q (.int (if b then 1 else 0)) H → RInt [.bl b] H Q
  | str {z : Str} {n : Int} {H : Hp} {Q : VK} : PySem.intText? z = some n → z.length ≤ 640 → Q (.int n) H → RInt [.str z] H Q
theorem lc_end {A B : Prop} (a : A) (b : B) : A ∧ B := ⟨a, b⟩
end
section
variable {X : Cx} {o e : Expr} {to te : TE}
theorem call_maxU (hc : X.calm = true) : CallR X (.builtin "max") RMx := by
  intro pins s σ H xs us Q I r h
  cases h with
  | @mk i j _ _ k =>
    refine call_max2 hc pins s σ H _ us Q I r ⟨i, j, rfl, ?_⟩
    by_cases c : j > i
    · rw [if_pos c]
      exact k j (by omega) (by omega) (.inr rfl)
    · rw [if_neg c]
      exact k i (by omega) (by omega) (.inl rfl)
theorem call_minU (hc : X.calm = true) : CallR X (.builtin "min") RMn := by
  intro pins s σ H xs us Q I r h
  cases h with
  | @mk i j _ _ k =>
    refine call_min2 hc pins s σ H _ us Q I r ⟨i, j, rfl, ?_⟩
    by_cases c : j < i
    · rw [if_pos c]
      exact k j (by omega) (by omega) (.inr rfl)
    · rw [if_neg c]
      exact k i (by omega) (by omega) (.inl rfl)
theorem call_allU (hc : X.calm = true) : CallR X (.builtin "all") RAll := by
  intro pins s σ H xs us Q I r h
  cases h with
  | mk e q => exact cr_all hc pins s σ H _ us Q I r ⟨_, _, rfl, SqL.of e, q⟩
theorem call_sumU (hc : X.calm = true) : CallR X (.builtin "sum") RSum := by
  intro pins s σ H xs us Q I r h
  cases h with
  | mk e q => exact cr_sum hc pins s σ H _ us Q I r ⟨_, _, rfl, SqL.of e, q⟩
theorem mt_joinU : MtR X "str.join" RJoin := by
  intro pins s σ H x xs v us Q I rx rs h
  cases h with
  | mk e hl q => exact mt_join pins s σ H _ _ v us Q I rx rs ⟨_, _, _, rfl, rfl, .inl (SqL.of e), hl, q⟩
theorem mt_startsU : MtR X "str.startswith" RStarts := by
  intro pins s σ H x xs v us Q I rx rs h
  cases h with
  | mk q => exact mt_startswith pins s σ H _ _ v us Q I rx rs ⟨_, _, rfl, rfl, q⟩
theorem mt_findU : MtR X "str.find" RFind := by
  intro pins s σ H x xs v us Q I rx rs h
  cases h with
  | mk q => exact mt_find pins s σ H _ _ v us Q I rx rs ⟨_, _, rfl, rfl, q⟩
theorem call_strU : CallR X (.type "str") RStr := by
  intro pins s σ H xs us Q I r h
  cases h with
  | int hl q => exact call_str_int pins s σ H _ us Q I r ⟨_, rfl, hl, q⟩
theorem call_intU : CallR X (.type "int") RInt := by
  intro pins s σ H xs us Q I r h
  cases h with
  | bl q => exact call_int1 pins s σ H _ us Q I r (.inr ⟨_, rfl, q⟩)
  | str h1 h2 q => exact call_int_str pins s σ H _ us Q I r ⟨_, _, rfl, h1, h2, q⟩
end
theorem log2_small {i : Int} (h : i.natAbs < 2 ^ 200) : i.natAbs.log2 < 1920 := by
  by_cases z : i.natAbs = 0
  · rw [z]
    decide
  · have := (Nat.log2_lt z (k := 200)).mpr h
    omega
theorem pe_gi {X : Cx} {x : Str} {p : Pos} {i : Int} (hg : Gl X x) (h : ∃ t, X.mg x = some (.int i t)) (hdb : (x == ("__debug__" : Str)) = false := by decide) : PE X (.Name x p) (tC (.int i)) := let ⟨t, e⟩ := h; pe_glob hg e ⟨t, rfl⟩ hdb
theorem pe_gs {X : Cx} {x z : Str} {p : Pos} (hg : Gl X x) (h : ∃ t, X.mg x = some (.str z t)) (hdb : (x == ("__debug__" : Str)) = false := by decide) : PE X (.Name x p) (tC (.str z)) := let ⟨t, e⟩ := h; pe_glob hg e ⟨t, rfl⟩ hdb
section
variable {H : Hp} {Q : VK} {K : PySem.W.Frag}
theorem ru_mk {g : Int → V} {i : Int} (h : Q (g i) H) : rU g (.int i) H Q := ⟨i, rfl, h⟩
theorem req_int {i j : Int} (q : Q (.bl (decide (i = j))) H) : REq false (.int i) (.int j) H Q := .scal rfl (by
  have e : decide (V.int i = V.int j) = decide (i = j) := by simp
  rw [← e] at q
  exact q)
theorem rne_int {i j : Int} (q : Q (.bl (!decide (i = j))) H) : REq true (.int i) (.int j) H Q := .scal rfl (by
  have e : decide (V.int i = V.int j) = decide (i = j) := by simp
  rw [← e] at q
  exact q)
theorem req_str {i j : Str} (q : Q (.bl (decide (i = j))) H) : REq false (.str i) (.str j) H Q := .scal rfl (by
  have e : decide (V.str i = V.str j) = decide (i = j) := by simp
  rw [← e] at q
  exact q)
theorem rne_str {i j : Str} (q : Q (.bl (!decide (i = j))) H) : REq true (.str i) (.str j) H Q := .scal rfl (by
  have e : decide (V.str i = V.str j) = decide (i = j) := by simp
  rw [← e] at q
  exact q)
theorem req_dat {x y : V} {d e : PyData} (h1 : Rep H x d) (h2 : Rep H y e) (n1 : d.hasDict = false) (n2 : e.hasDict = false) (s1 : SeqAt.shaped d = true) (s2 : SeqAt.shaped e = true) (q : Q (.bl (PyData.eqv d e)) H) : REq false x y H Q := .dat h1 h2 n1 n2 s1 s2 q
theorem rne_dat {x y : V} {d e : PyData} (h1 : Rep H x d) (h2 : Rep H y e) (n1 : d.hasDict = false) (n2 : e.hasDict = false) (s1 : SeqAt.shaped d = true) (s2 : SeqAt.shaped e = true) (q : Q (.bl (!PyData.eqv d e)) H) : REq true x y H Q := .dat h1 h2 n1 n2 s1 s2 q
theorem ris_non {x : V} (q : Q (.bl (decide (x = .non))) H) : RIs false x .non H Q := .non q
theorem ris_nonN {x : V} (q : Q (.bl (!decide (x = .non))) H) : RIs true x .non H Q := .non q
theorem ris_bl {x : V} {b : Bool} (q : Q (.bl (decide (x = .bl b))) H) : RIs false x (.bl b) H Q := .bl q
theorem ris_blN {x : V} {b : Bool} (q : Q (.bl (!decide (x = .bl b))) H) : RIs true x (.bl b) H Q := .bl q
theorem rin_sign {c : Nat} {z : Str} (q : Q (.bl (decide (c ∈ z.cps.toList))) H) : RIn false (.str ⟨#[c]⟩) (.str z) H Q := .sign q
theorem rni_sign {c : Nat} {z : Str} (q : Q (.bl (!decide (c ∈ z.cps.toList))) H) : RIn true (.str ⟨#[c]⟩) (.str z) H Q := .sign q
end
theorem Ex.of {D D' : Hp} {a : Addr} {o : HO} (h : D a = some o) (x : Ex D D') : D' a = some o := x a o h
/-- a value is reckoned for all goals at once -/
theorem te_q {t : TE} {σ : L2.St} {H : Hp} {Q : VK} (v : V) (h1 : Q v H) (h2 : ∀ Q' : VK, Q' v H → t σ H Q') : t σ H Q := h2 Q h1
theorem repr_now {H : Hp} {Q : VK} {x : V} {d : PyData} (h : Rep H x d) (h1 : d.showable = true) (h2 : d.shown.length ≤ 1000000) (h3 : d.depth ≤ 60) (q : Q (.str d.shown) H) : rRepr [x] H Q := ⟨x, d, rfl, h, h1, small_ok h2, h3, q⟩
theorem callN_now {n m : Nat} {sp : Sp} {l l' : List V} {H : Hp} {Q : VK} {E : XK} (e : l = l') (h : sp l' H Q E) : n = n ∧ m = m ∧ sp l H Q E := by
  subst e
  exact ⟨rfl, rfl, h⟩
/-- a short text of plain signs -/
structure TxtOk (z : Str) : Prop where
  len : z.length ≤ 1000
  sg : ∀ c ∈ z.cps.toList, c < 1000
theorem TxtOk.ok {z : Str} (h : TxtOk z) : PyData.strOk z = true := by
  unfold PyData.strOk
  rw [Array.all_eq_true']
  intro c hc
  have := h.sg c (by simpa using hc)
  simp
  omega
theorem TxtOk.sign {z : Str} {c : Nat} (h : TxtOk z) (m : c ∈ z.cps.toList) : TxtOk ⟨#[c]⟩ := ⟨by show 1 ≤ 1000; decide, fun d hd => by
  simp at hd
  rw [hd]
  exact h.sg c m⟩
theorem rep_strs {H : Hp} : ∀ ys : List Str, RepL H (ys.map V.str) (ys.map PyData.str)
  | [] => .nil
  | y :: ys => .cons (.str y) (rep_strs ys)
theorem strs_dict : ∀ ys : List Str, PyData.hasDictAll (ys.map PyData.str) = false
  | [] => by simp [PyData.hasDictAll]
  | y :: ys => by
    have := strs_dict ys
    simp [PyData.hasDictAll, PyData.hasDict, this]
theorem strs_lay : ∀ ys : List Str, (∀ y ∈ ys, PyData.strOk y = true) → PyData.canLayAll0 (ys.map PyData.str) = true
  | [], _ => by simp [PyData.canLayAll0]
  | y :: ys, h => by
    have := strs_lay ys fun z hz => h z (List.mem_cons_of_mem _ hz)
    have h2 := h y (List.mem_cons_self ..)
    simp [PyData.canLayAll0, PyData.canLay0, this, h2]
theorem strs_depth : ∀ ys : List Str, PyData.depthAll (ys.map PyData.str) = 0
  | [] => by simp [PyData.depthAll]
  | y :: ys => by
    have := strs_depth ys
    simp [PyData.depthAll, PyData.depth, this]
theorem strs_shaped {ys : List Str} (h : ∀ y ∈ ys, PyData.strOk y = true) : SeqAt.shaped (.list (ys.map PyData.str)) = true := by
  unfold SeqAt.shaped
  simp [PyData.canLay0, strs_lay ys h, PyData.depth, strs_depth ys]
theorem req_nil {H : Hp} {Q : VK} {p q : Addr} {ys : List Str} (e1 : H p = some (.lst (ys.map V.str))) (e2 : H q = some (.lst [])) (h : ∀ y ∈ ys, PyData.strOk y = true) (g : Q (.bl ys.isEmpty) H) : REq false (.ref p) (.ref q) H Q := by
  refine REq.dat (d := .list (ys.map PyData.str)) (e := .list []) (.lst e1 (rep_strs ys)) (.lst e2 .nil) (by simp [PyData.hasDict, strs_dict]) (by simp [PyData.hasDict, PyData.hasDictAll]) (strs_shaped h) (by decide +kernel) ?_
  have e : PyData.eqv (.list (ys.map PyData.str)) (.list []) = ys.isEmpty := by cases ys <;> simp [PyData.eqv, PyData.eqvAll]
  rw [e]
  exact g
/-- how a value may be told apart -/
theorem Kn.told {K : PySem.W.Frag} {H : Hp} {v : V} {k : Knd} (h : Kn K H v k) : (v = .non ∧ k = .non) ∨ (∃ b, v = .bl b ∧ k = .bl) ∨ (∃ i, v = .int i ∧ k = .int) ∨ (∃ z, v = .str z ∧ k = .str) ∨ (∃ a, v = .ref a ∧ (k = .lst ∨ k = .tup ∨ k = .dict ∨ k = .oth)) := by
  cases h with
  | non => exact .inl ⟨rfl, rfl⟩
  | bl b => exact .inr (.inl ⟨b, rfl, rfl⟩)
  | int i => exact .inr (.inr (.inl ⟨i, rfl, rfl⟩))
  | str z => exact .inr (.inr (.inr (.inl ⟨z, rfl, rfl⟩)))
  | lst e => exact .inr (.inr (.inr (.inr ⟨_, rfl, .inl rfl⟩)))
  | frz e => exact .inr (.inr (.inr (.inr ⟨_, rfl, .inl rfl⟩)))
  | tup e => exact .inr (.inr (.inr (.inr ⟨_, rfl, .inr (.inl rfl)⟩)))
  | dict e => exact .inr (.inr (.inr (.inr ⟨_, rfl, .inr (.inr (.inl rfl))⟩)))
  | exc e ed c s => exact .inr (.inr (.inr (.inr ⟨_, rfl, .inr (.inr (.inr rfl))⟩)))
  | excq e ed c s => exact .inr (.inr (.inr (.inr ⟨_, rfl, .inr (.inr (.inr rfl))⟩)))
  | ins e c s => exact .inr (.inr (.inr (.inr ⟨_, rfl, .inr (.inr (.inr rfl))⟩)))
theorem Kn.not_int {K : PySem.W.Frag} {H : Hp} {v : V} {k : Knd} (h : Kn K H v k) (e : k.is "int" = false) : (∀ i, v ≠ .int i) ∧ ∀ b, v ≠ .bl b := by
  rcases h.told with ⟨rfl, rfl⟩ | ⟨b, rfl, rfl⟩ | ⟨i, rfl, rfl⟩ | ⟨z, rfl, rfl⟩ | ⟨a, rfl, _⟩
  · exact ⟨(fun _ z => nomatch z), (fun _ z => nomatch z)⟩
  · exact absurd e (by decide)
  · exact absurd e (by decide)
  · exact ⟨(fun _ z => nomatch z), (fun _ z => nomatch z)⟩
  · exact ⟨(fun _ z => nomatch z), (fun _ z => nomatch z)⟩
theorem Kn.not_str {K : PySem.W.Frag} {H : Hp} {v : V} {k : Knd} (h : Kn K H v k) (e : k.is "str" = false) : ∀ z, v ≠ .str z := by
  rcases h.told with ⟨rfl, rfl⟩ | ⟨b, rfl, rfl⟩ | ⟨i, rfl, rfl⟩ | ⟨z, rfl, rfl⟩ | ⟨a, rfl, _⟩
  · exact fun _ z => nomatch z
  · exact fun _ z => nomatch z
  · exact fun _ z => nomatch z
  · exact absurd e (by decide)
  · exact fun _ z => nomatch z
theorem Kn.of_str {K : PySem.W.Frag} {H : Hp} {v : V} {k : Knd} (h : Kn K H v k) (e : k.is "str" = true) : ∃ z, v = .str z ∧ k = .str := by
  rcases h.told with ⟨rfl, rfl⟩ | ⟨b, rfl, rfl⟩ | ⟨i, rfl, rfl⟩ | ⟨z, rfl, rfl⟩ | ⟨a, rfl, hk⟩
  · exact absurd e (by decide)
  · exact absurd e (by decide)
  · exact absurd e (by decide)
  · exact ⟨z, rfl, rfl⟩
  · rcases hk with rfl | rfl | rfl | rfl <;> exact absurd e (by decide)
theorem atI_nat {α : Type} {xs : List α} {i : Nat} : atI xs (i : Int) = xs[i]? := by
  unfold atI ixN
  rw [if_pos (by omega)]
  by_cases h : i < xs.length
  · rw [if_pos (by omega)]
    simp
  · rw [if_neg (by omega)]
    simp at h
    simp [h]
theorem atI_map {α β : Type} {f : α → β} {xs : List α} {i : Nat} {x : α} (h : xs[i]? = some x) : atI (xs.map f) (i : Int) = some (f x) := by
  rw [atI_nat, List.getElem?_map, h]
  rfl
theorem atI_ofI {α : Type} {xs : List α} {i : Int} (h : 0 ≤ i) : atI xs i = xs[i.toNat]? := by
  obtain ⟨n, rfl⟩ := Int.eq_ofNat_of_zero_le h
  rw [atI_nat]
  rfl
end Wk

set_option maxRecDepth 100000
set_option maxHeartbeats 4000000
/-! Plain texts: their signs and lengths; drawn things; dict displays. -/
namespace Wk
open PySem PySem.Spec PyProof.Rows L2
/-- every sign is a plain one -/
def Sg (z : Str) : Prop := ∀ c ∈ z.cps.toList, c < 1000
theorem sg_of {z : Str} (h : (z.cps.toList.all fun c => decide (c < 1000)) = true) : Sg z := fun c hc => of_decide_eq_true (List.all_eq_true.mp h c hc)
theorem len_app (a b : Str) : (a ++ b).length = a.length + b.length := PySem.Str.length_append a b
theorem tl_app (a b : Str) : (a ++ b).cps.toList = a.cps.toList ++ b.cps.toList := by
  rw [PySem.Str.cps_append]
  simp
theorem Sg.app {a b : Str} (h : Sg a) (k : Sg b) : Sg (a ++ b) := fun c hc => by
  rw [tl_app] at hc
  rcases List.mem_append.mp hc with h1 | h1
  · exact h c h1
  · exact k c h1
theorem Sg.cut {z : Str} (h : Sg z) (lo hi : Option Int) : Sg (cutS z lo hi) := fun c hc => by
  unfold cutS at hc
  simp only at hc
  exact h c (List.mem_of_mem_drop (List.mem_of_mem_take (by simpa using hc)))
theorem len_cut (z : Str) (lo hi : Option Int) : (cutS z lo hi).length ≤ z.length := by
  show ((z.cps.toList.drop _).take _).toArray.size ≤ z.length
  rw [List.size_toArray, List.length_take, List.length_drop, cps_len0]
  omega
where cps_len0 {z : Str} : z.cps.toList.length = z.length := rfl
theorem TxtOk.mk' {z : Str} (h1 : z.length ≤ 1000) (h2 : Sg z) : TxtOk z := ⟨h1, h2⟩
theorem Sg.one {z : Str} {c : Nat} (h : Sg z) (m : c ∈ z.cps.toList) : Sg ⟨#[c]⟩ := fun d hd => by
  simp at hd
  rw [hd]
  exact h c m
/-- a slice, a sum of texts, told by what they are made of alone -/
theorem rsl_some {z : Str} {lo hi : Option Int} {H : Hp} {Q : VK} (hl : z.length ≤ 1000000) (s : Sg z) (k : ∀ y, y.length ≤ z.length → Sg y → Q (.str y) H) : RSl (.str z) lo hi H Q := RSl.str (small_ok hl) (k _ (len_cut ..) (s.cut _ _))
theorem radd_some {a b : Str} {H : Hp} {Q : VK} (hl : a.length + b.length ≤ 1000000) (s1 : Sg a) (s2 : Sg b) (k : ∀ y, y.length = a.length + b.length → Sg y → Q (.str y) H) : RAdd (.str a) (.str b) H Q := RAdd.str (small_ok hl) (k _ (len_app ..) (s1.app s2))
theorem rep_size (a : Array Nat) : ∀ (n : Nat) (acc : Array Nat), ((List.replicate n a).foldl (· ++ ·) acc).size = acc.size + a.size * n
  | 0, acc => by simp
  | n + 1, acc => by
    rw [List.replicate_succ, List.foldl_cons, rep_size a n, Array.size_append, Nat.mul_succ]
    omega
theorem rep_mem (a : Array Nat) {c : Nat} : ∀ (n : Nat) (acc : Array Nat), c ∈ ((List.replicate n a).foldl (· ++ ·) acc).toList → c ∈ acc.toList ∨ c ∈ a.toList
  | 0, acc, h => .inl h
  | n + 1, acc, h => by
    rw [List.replicate_succ, List.foldl_cons] at h
    rcases rep_mem a n _ h with q | q
    · rw [Array.toList_append] at q
      exact List.mem_append.mp q
    · exact .inr q
theorem rmul_some {a : Str} {n : Int} {H : Hp} {Q : VK} (a0 : a.length = 1) (k0 : 1 ≤ n) (k1 : n ≤ 1000) (s : Sg a) (k : ∀ y, y.length = n.toNat → Sg y → Q (.str y) H) : RMul (.str a) (.int n) H Q := by
  refine RMul.str (by omega) (by omega) k0 k1 (k _ ?_ fun c hc => ?_)
  · show ((List.replicate n.toNat a.cps).foldl (· ++ ·) #[]).size = _
    rw [rep_size, show a.cps.size = 1 from a0]
    simp
  · rcases rep_mem a.cps n.toNat #[] hc with q | q
    · simp at q
    · exact s c q
theorem tst {i : Int} (h : i.natAbs < 10 ^ 30) : (Str.ofString (toString i)).length ≤ 31 ∧ Sg (Str.ofString (toString i)) := by
  refine ⟨?_, fun c hc => ?_⟩
  · rw [PySem.ofString_length]
    exact PySem.int_text_length_le10 (by decide) h
  · by_cases q : c < 1000
    · exact q
    · exact absurd hc (PyProof.Rows.int_text_free' c ⟨by omega, by omega⟩ i)
/-- texts of one plain sign each -/
def Ones (ys : List Str) : Prop := ∀ y ∈ ys, y.length = 1 ∧ Sg y
theorem Ones.sum : ∀ {ys : List Str}, Ones ys → (ys.map (·.length)).sum = ys.length
  | [], _ => rfl
  | y :: ys, h => by
    have ih := Ones.sum (ys := ys) fun z hz => h z (List.mem_cons_of_mem _ hz)
    have e := (h y (List.mem_cons_self ..)).1
    simp only [List.map_cons, List.sum_cons, List.length_cons, ih, e]
    omega
theorem Ones.snoc {ys : List Str} {z : Str} {c : Nat} (h : Ones ys) (hz : Sg z) (m : c ∈ z.cps.toList) : Ones (ys ++ [⟨#[c]⟩]) := fun y hy => by
  rcases List.mem_append.mp hy with h1 | h1
  · exact h y h1
  · rw [List.mem_singleton.mp h1]
    exact ⟨rfl, hz.one m⟩
theorem ones_join : ∀ {ys : List Str}, Ones ys → (Txt.join "" ys).length = ys.length ∧ Sg (Txt.join "" ys)
  | [], _ => ⟨rfl, fun c hc => by simp [Txt.join, Builtin.Str.glued, Str.empty] at hc⟩
  | [y], h => by
    rw [TL.join_eq]
    show y.length = 1 ∧ Sg y
    exact h y (List.mem_cons_self ..)
  | x :: y :: r, h => by
    have ih := ones_join (ys := y :: r) fun z hz => h z (List.mem_cons_of_mem _ hz)
    have hx := h x (List.mem_cons_self ..)
    rw [TL.join_eq] at ih ⊢
    show (x ++ "" ++ Str.join "" (y :: r)).length = _ ∧ Sg (x ++ "" ++ Str.join "" (y :: r))
    have e : (x ++ ("" : Str)) = x := PySem.Str.append_empty x
    rw [e, len_app, ih.1, hx.1]
    refine ⟨by simp only [List.length_cons]; omega, hx.2.app ih.2⟩
/-- a drawn thing -/
def Th (K : PySem.W.Frag) (D : Hp) (v : V) : Prop := (∃ k, Kn K D v k) ∧ ∀ z, v = .str z → TxtOk z
theorem Th.kn {K : PySem.W.Frag} {D : Hp} {v : V} {k : Knd} (h : Kn K D v k) (n : ∀ z, v ≠ .str z := by intro z e; cases e) : Th K D v := ⟨⟨k, h⟩, fun z e => absurd e (n z)⟩
theorem Th.str {K : PySem.W.Frag} {D : Hp} {z : Str} (h : TxtOk z) : Th K D (.str z) := ⟨⟨_, .str z⟩, fun y e => by cases e; exact h⟩
theorem txt_of {z : Str} (h : (decide (z.length ≤ 1000) && z.cps.toList.all fun c => decide (c < 1000)) = true) : TxtOk z := by
  obtain ⟨a, b⟩ := He.ba h
  exact ⟨of_decide_eq_true a, sg_of b⟩
theorem Th.mono {K : PySem.W.Frag} {D D' : Hp} {v : V} (h : Th K D v) (x : Ex D D') : Th K D' v := by
  obtain ⟨⟨k, a⟩, b⟩ := h
  exact ⟨⟨k, a.mono x⟩, b⟩
/-- one of the items -/
theorem atI_all {α : Type} {xs : List α} {P : α → Prop} {r : Int} (h : ∀ v ∈ xs, P v) (h0 : 0 ≤ r) (h1 : r < xs.length) : ∃ v, atI xs r = some v ∧ P v := by
  obtain ⟨n, rfl⟩ := Int.eq_ofNat_of_zero_le h0
  have hn : n < xs.length := by omega
  refine ⟨xs[n], ?_, h _ (List.getElem_mem hn)⟩
  rw [atI_nat]
  exact List.getElem?_eq_getElem hn
theorem all_c {α : Type} {x : α} {xs : List α} {P : α → Prop} (a : P x) (b : ∀ v ∈ xs, P v) : ∀ v ∈ x :: xs, P v := fun v hv => by
  rcases List.mem_cons.mp hv with e | e
  · rw [e]
    exact a
  · exact b v e
theorem all_n {α : Type} {P : α → Prop} : ∀ v ∈ ([] : List α), P v := fun v hv => by cases hv
/-- a list of which one item is taken -/
theorem RIx.pick {p : Addr} {xs : List V} {P : V → Prop} {r : Int} {H : Hp} {Q : VK} (e : H p = some (.lst xs)) (h : ∀ v ∈ xs, P v) (h0 : 0 ≤ r) (h1 : r < xs.length) (q : ∀ v, P v → Q v H) : RIx (.ref p) (.int r) H Q := by
  obtain ⟨v, e2, hv⟩ := atI_all h h0 h1
  exact RIx.l e e2 (q v hv)
theorem RIx.pickD {p : Addr} {xs : List V} {P : Hp → V → Prop} {r : Int} {H D : Hp} {R : Cells} {Q : VK} (hi : HI H R D) (e : H p = some (.lst xs)) (h : ∀ v ∈ xs, P D v) (h0 : 0 ≤ r) (h1 : r < xs.length) (q : ∀ v, P D v → Q v H) : RIx (.ref p) (.int r) H Q := RIx.pick e h h0 h1 q
theorem RIx.pickI {p : Addr} {xs : List V} {lo hi r : Int} {H : Hp} {Q : VK} (e : H p = some (.lst xs)) (h : ∀ v ∈ xs, ∃ i : Int, v = .int i ∧ lo ≤ i ∧ i ≤ hi) (h0 : 0 ≤ r) (h1 : r < xs.length) (q : ∀ i : Int, lo ≤ i → i ≤ hi → Q (.int i) H) : RIx (.ref p) (.int r) H Q := RIx.pick e h h0 h1 fun v ⟨i, e, a, b⟩ => by rw [e]; exact q i a b
/-- a sign of a text -/
theorem RIx.sgn {z : Str} {r : Int} {H : Hp} {Q : VK} (hl : z.length ≤ 1000000) (h0 : 0 ≤ r) (h1 : r < z.length) (q : ∀ c, c ∈ z.cps.toList → Q (.str ⟨#[c]⟩) H) : RIx (.str z) (.int r) H Q := by
  obtain ⟨c, e2, hc⟩ := atI_all (xs := z.cps.toList) (P := fun c => c ∈ z.cps.toList) (fun c h => h) h0 (by rw [show z.cps.toList.length = z.length from rfl]; exact h1)
  exact RIx.s (small_ok hl) e2 (q c hc)
/-! ### dict displays -/
section
variable {K : PySem.W.Frag} {σ : L2.St} {H : Hp} {Q : VK}
theorem se_dnewK (h : AlD (.dK []) H Q) : tDNewK σ H Q := h
def DispP (p : Addr) (ps : List (V × V)) (H : Hp) (Q : VK) : Prop := H p = some (.dK []) ∧ ∃ kvs : List (Key × V), ps = kvs.map (fun kv => (kV kv.1, kv.2)) ∧ kvs.length ≤ 15 ∧ Q (.ref p) (upd H p (.dK (mergeK [] kvs)))
theorem se_disp {D : Hp} {R : Cells} {trs : List (TE × TE)} (hi : HI H R D) (h : ∀ p H1, HI H1 ((p, .dK []) :: R) D → tPairs trs σ H1 fun ps H2 => DispP p ps H2 Q) : tDisp trs σ H Q := fun p hp => h p _ (hi.new hp)
theorem sp_nil {N : List (V × V) → Hp → Prop} (h : N [] H) : tPairs [] σ H N := h
theorem sp_cons {tk tv : TE} {trs : List (TE × TE)} {N : List (V × V) → Hp → Prop} (h : tk σ H fun x H1 => tv σ H1 fun y H2 => tPairs trs σ H2 fun ps H3 => N ((x, y) :: ps) H3) : tPairs ((tk, tv) :: trs) σ H N := h
def keysOf : List (V × V) → Option (List (Key × V))
  | [] => some []
  | (.int i, v) :: r => (keysOf r).map fun l => (.inl i, v) :: l
  | (.str x, v) :: r => (keysOf r).map fun l => (.inr x, v) :: l
  | _ => none
theorem keysOf_ok : ∀ {ps : List (V × V)} {kvs : List (Key × V)}, keysOf ps = some kvs → ps = kvs.map fun kv => (kV kv.1, kv.2)
  | [], kvs, e => by
    cases e
    rfl
  | (x, v) :: r, kvs, e => by
    cases x with
    | int i =>
      obtain ⟨l, e1, rfl⟩ := Option.map_eq_some_iff.mp (show (keysOf r).map _ = some kvs from e)
      rw [keysOf_ok e1]
      rfl
    | str z =>
      obtain ⟨l, e1, rfl⟩ := Option.map_eq_some_iff.mp (show (keysOf r).map _ = some kvs from e)
      rw [keysOf_ok e1]
      rfl
    | _ => cases e
theorem disp_now {p : Addr} {ps : List (V × V)} {kvs : List (Key × V)} {R : Cells} {D : Hp} (hi : HI H ((p, .dK []) :: R) D) (e : keysOf ps = some kvs) (hl : kvs.length ≤ 15) (k : ∀ H' D', HI H' R D' → Ex D D' → D' p = some (.dK (mergeK [] kvs)) → Q (.ref p) H') : DispP p ps H Q :=
  ⟨hi.get (List.mem_cons_self ..), kvs, keysOf_ok e, hl, k _ _ (hi.set (u := .dK (mergeK [] kvs))).freeze (hi.set (u := .dK (mergeK [] kvs))).freezeX upd_same⟩
end
end Wk

set_option maxRecDepth 100000
set_option maxHeartbeats 4000000
/-! Own plain classes: their ==, !=, len, repr, str by the text's own defs; new instances over the heap in two parts. -/
namespace Wk
open PySem PySem.Spec PyProof.Rows L2
/-! ### a def of the text called from within a builtin -/
section
variable {X : Cx} {k : Nat} {f C : Addr} {ps : List Str} {sp : Sp} {pins : List (Addr × Obj)} {σ : L2.St} {H : Hp} {s : Shared} {Q : VK}
theorem run_at {A : Around} {us : List Value} {vs : List V} (F : FnG X.prog X.w X.K X.mg X.base k f ps sp) (hgu : A.guards = some []) (hfr : A.frames = X.A.frames) (hr : Room k A) (hb : Binds X.K (fdOf X.K f) ps []) (I : Inv X pins σ H s) (r : Vals vs us)
    (h : sp vs H Q (fun _ _ _ => False)) : wpAny (model X.prog X.w) A (call (.ref f) us) (fun u s' => ∃ v H', Inv X pins σ H' s' ∧ RelV v u ∧ Q v H') X.xe s := by
  have e0 : Env0 X.prog X.w X.K X.mg X.base A X.stack s H := by
    have e := I.env0
    exact ⟨by rw [hfr]; exact e.frames, e.mod, e.bs, e.bsz, e.funs, e.frf, e.hok, e.bare⟩
  have hl := F.len _ _ _ _ h
  refine wpAny_call (codeAny_mono (F.run A X.stack s H ⟨us, []⟩ us vs Q _ hgu hr e0 (by
    have := hb s us I.kIn (by simp [← r.length, hl])
    simpa using this) r h) fun r s' hq => ?_)
  cases r with
  | error e =>
    obtain ⟨_, _, _, _, _, _, _, _, _, _, _, _, z⟩ := hq
    exact z.elim
  | ok fl =>
    cases fl with
    | ret u =>
      obtain ⟨v, H', I', rv, q⟩ := I.after hq
      exact ⟨v, H', I', rv, q⟩
    | next => exact False.elim hq
    | brk => exact False.elim hq
    | cont => exact False.elim hq
/-- the instance as the library's rules want it -/
theorem ins_at {a dx : Addr} {fs : List (Str × V)} (I : Inv X pins σ H s) (e : H a = some (.ins C dx fs)) : ∃ ox od, PySem.W.InstAt s.heap a ox C (some od) := by
  obtain ⟨mA, O, _⟩ := ins_get I.hok e
  obtain ⟨od, J, _⟩ := O.look
  exact ⟨_, od, J⟩
end
/-! ### what the class tells -/
def seven : List String := ["NoneType", "int", "bool", "str", "list", "tuple", "dict"]
/-- an instance or an exception of an own class -/
inductive Ow (K : PySem.W.Frag) (H : Hp) : V → Addr → Prop where
  | exc {a d C : Addr} {fs : List (Str × V)} (e : H a = some (exo a C (some d))) (ed : H d = some (exd d fs)) (c : ExcC K C) : Ow K H (.ref a) C
  | excq {a d C t1 : Addr} {fs : List (Str × V)} (e : H a = some (exq a C (some d) t1)) (ed : H d = some (exd d fs)) (c : ExcC K C) : Ow K H (.ref a) C
  | ins {a C dx : Addr} {fs : List (Str × V)} (e : H a = some (.ins C dx fs)) (c : InsC K C) : Ow K H (.ref a) C
theorem Ow.mono {K : PySem.W.Frag} {H H' : Hp} {v : V} {C : Addr} (h : Ow K H v C) (x : Ex H H') : Ow K H' v C := by
  cases h with
  | exc e ed c => exact .exc (x _ _ e) (x _ _ ed) c
  | excq e ed c => exact .excq (x _ _ e) (x _ _ ed) c
  | ins e c => exact .ins (x _ _ e) c
def Knd.tn : Knd → Option String
  | .non => some "NoneType"
  | .bl => some "bool"
  | .int => some "int"
  | .str => some "str"
  | .lst => some "list"
  | .tup => some "tuple"
  | .dict => some "dict"
  | .oth => none
/-- a value's type -/
inductive Ty (K : PySem.W.Frag) (H : Hp) : V → Value → Prop where
  | b {v : V} {k : Knd} {n : String} (h : Kn K H v k) (hn : n ∈ seven) (e : k.tn = some n) : Ty K H v (.type n)
  | o {v : V} {C : Addr} (h : Ow K H v C) : Ty K H v (.ref C)
section
variable {X : Cx} {pins : List (Addr × Obj)} {σ : L2.St} {H : Hp} {s : Shared}
theorem ty_of {v : V} {u t : Value} (I : Inv X pins σ H s) (rx : RelV v u) (h : Ty X.K H v t) : ∃ (P : Heap → Prop), PySem.W.KitX X.K u t P ∧ P s.heap ∧ u ≠ .builtin "__main__.__loader__#opaque" := by
  have go : ∀ {t : Value}, TyX X.K H v t → ∃ (P : Heap → Prop), PySem.W.KitX X.K u t P ∧ P s.heap ∧ u ≠ .builtin "__main__.__loader__#opaque" := fun ty => kit_of I rx ty
  cases h with
  | b h hn e =>
    cases h with
    | non => cases e; exact go (.base .non)
    | bl c => cases e; exact go (.base (.bl c))
    | int i => cases e; exact go (.base (.int i))
    | str z => cases e; exact go (.base (.str z))
    | lst e2 => cases e; exact go (.base (.lst e2))
    | frz e2 => cases e; exact go (.base (.frz e2))
    | tup e2 => cases e; exact go (.base (.tup e2))
    | dict e2 => cases e; exact go (.base (.dK e2))
    | exc e2 ed c s => cases e
    | excq e2 ed c s => cases e
    | ins e2 c s => cases e
  | o h =>
    cases h with
    | ins e c => exact go (.base (.ins e c.cl c.ha c.hn c.ht c.hm))
    | @exc a d C fs e ed c =>
      cases (show u = Value.ref a from rx)
      obtain ⟨t1, ho⟩ := exo_at I.hok e
      obtain ⟨mA, hns, rel⟩ := exd_at I.hok ed
      obtain ⟨oD, _, _, hoD, _, _⟩ := hns.count (within_of rel)
      exact ⟨_, kitx_X (od := oD) c, ⟨ho, rfl, rfl, hoD⟩, (fun z => nomatch z)⟩
    | @excq a d C t1 fs e ed c =>
      cases (show u = Value.ref a from rx)
      have ho := exq_at I.hok e
      obtain ⟨mA, hns, rel⟩ := exd_at I.hok ed
      obtain ⟨oD, _, _, hoD, _, _⟩ := hns.count (within_of rel)
      exact ⟨_, kitx_X (od := oD) c, ⟨ho, rfl, rfl, hoD⟩, (fun z => nomatch z)⟩
end
/-- isinstance(x, C), C an own class -/
inductive RIsiC (K : PySem.W.Frag) : List V → Hp → VK → Prop
  | ty {x : V} {C : Addr} {t : Value} {b : Bool} {H : Hp} {Q : VK} : Ty K H x t → PySem.W.kitOne K t (.ref C) = some b → Q (.bl b) H → RIsiC K [x, .ref C] H Q
theorem call_isiC {X : Cx} : CallR X (.builtin "isinstance") (RIsiC X.K) := by
  intro pins s σ H xs us Q I r h
  cases h with
  | ty ty e q =>
    obtain ⟨u1, u2, rfl, r1, r2⟩ := vals2 r
    cases (show u2 = Value.ref _ from r2)
    obtain ⟨P, Z, p, hx⟩ := ty_of I r1 ty
    exact PySem.W.kia_one Z I.kIn p e hx fun tk => ⟨.bl _, H, I.tok tk, rfl, q⟩
/-! ### == and != -/
open PySem.W PySem.Calls in
theorem cmp_ne {prog : Program} {w : World} {A : Around} {E : Value → Shared → Prop} {s : Shared} {K : Frag} {x C f : Addr} {ox od : Obj} {b tb : Value} {Q : Value → Shared → Prop} (hu : A.in1.units < cLine) (X : K.In s.heap) (I : InstAt s.heap x ox C (some od)) (hb : Looks (model prog w) s.heap (typeOf b) tb) (hn : notFirst K C tb = true)
    (hs : findIn K (.ref C) "__ne__" = some (some (.builtin "object.__ne__"))) (hm : mroIn K C (.type "object") = some true) (he : findIn K (.ref C) "__eq__" = some (some (.ref f))) (hf : isFn K (.ref f) = true)
    (h : wpAny (model prog w) A.in1 (call (.ref f) [.ref x, b]) (fun v s' => ∃ c, v = .bool c ∧ Q (.bool (!c)) s') E s) : wpAny (model prog w) A (richCompare .NotEq (.ref x) b) Q E s := by
  have hu0 : A.units < cLine := Nat.lt_of_succ_lt hu
  have body : wpAny (model prog w) A (call (.builtin "object.__ne__") [.ref x, b]) (fun v s' => ∃ c, v = .bool c ∧ Q v s') E s := by
    refine wpAny_call (codeAny_call_builtin (by decide +kernel) PySem.F.cmpEntry_ne (check_slot (i := "object.__ne__") (owner := "object") (n := "__ne__") (by decide +kernel) (by decide +kernel) (I.type.andThen (looks_mroIn X hm)) (PySem.F.cmpArgs_ne _ _) ?_))
    unfold Builtin.«object.__ne__»
    refine wpAny_bind (m := slotArgs "__ne__" 1 _) (wpAny_pure ?_)
    refine wpAny_bind (m := cRoomFor _ _) (wpAny_cRoomFor hu ?_)
    refine wpAny_bind (m := callSpecialIfBound? (.ref x) (Str.ofString "__eq__") _) (ifBound_K X I he hf (wpAny_mono h (fun v s' hv => ?_) fun _ _ z => z))
    obtain ⟨c, rfl, q⟩ := hv
    refine wpAny_bind (m := truthy (.bool c)) (wpAny_truthy_bool ?_)
    exact wpAny_pure ⟨_, rfl, q⟩
  have bound : ∀ {P : Option Value → Shared → Prop}, wpAny (model prog w) A (call (.builtin "object.__ne__") [.ref x, b]) (fun v s' => P (some v) s') E s → wpAny (model prog w) A (callSpecialIfBound? (.ref x) "__ne__" [b]) P E s := fun {P} hP => by
    simp only [callSpecialIfBound?, bindSpecialIfBound?]
    have hbd : bindSpecial (.builtin "object.__ne__") (.ref x) = (pure (.builtin "object.__ne__", [.ref x]) : Sem (Value × List Value)) := by kernel_rfl
    refine wpAny_holding (wpAny_bind (wpAny_bind (wpAny_bind (I.type.here ((looks_findIn X hs).here ?_)))))
    refine wpAny_bind (wpAny_askSetting (wpAny_ite ?_))
    have fin : wpAny (model prog w) A (call (.builtin "object.__ne__") ([.ref x] ++ [b]) >>= fun v => pure (some v)) P E s := wpAny_bind (wpAny_mono hP (fun v s' z => wpAny_pure z) fun _ _ z => z)
    split
    · exact wpAny_bind ((Looks.of_pure hbd).here (wpAny_pure (by exact fin)))
    · exact wpAny_tryCatch (wpAny_bind ((Looks.of_pure hbd).here (wpAny_pure (by exact fin))))
  have one : wpAny (model prog w) A (tryCompare (.ref x) "__ne__" b) (fun r s' => ∃ v, r = some v ∧ Q v s') E s := by
    unfold tryCompare
    refine wpAny_bind (bound (wpAny_mono body (fun v s' hv => ?_) fun _ _ z => z))
    obtain ⟨c, rfl, q⟩ := hv
    exact wpAny_pure ⟨_, rfl, q⟩
  unfold richCompare
  simp only [oneThing_ref]
  refine wpAny_holding (wpAny_bind (wpAny_cRoomFor hu0 ?_))
  refine wpAny_bind (I.type.here (wpAny_bind (hb.here ?_)))
  have fin : wpAny (model prog w) A (tryCompare (.ref x) "__ne__" b) (fun r s' => ∃ v, r = some v ∧ Q v s') E s := one
  split
  · rename_i q
    have e : subIn K tb (.ref C) = some false := by
      rcases Bool.or_eq_true_iff.mp hn with e | e
      · rw [beq_iff_eq.mp e] at q
        simp at q
      · exact beq_iff_eq.mp e
    refine wpAny_bind ((looks_subIn X e).here ?_)
    simp only [Bool.false_eq_true, if_false]
    refine wpAny_bind (wpAny_mono fin (fun r s' z => ?_) fun _ _ z => z)
    obtain ⟨v, rfl, hq⟩ := z
    exact wpAny_pure hq
  · refine wpAny_bind (wpAny_pure ?_)
    simp only [Bool.false_eq_true, if_false]
    refine wpAny_bind (wpAny_mono fin (fun r s' z => ?_) fun _ _ z => z)
    obtain ⟨v, rfl, hq⟩ := z
    exact wpAny_pure hq
/-- what the class tells of its comparing -/
structure EqC (K : PySem.W.Frag) (C f : Addr) : Prop where
  eq : PySem.W.findIn K (.ref C) "__eq__" = some (some (.ref f))
  fn : PySem.W.isFn K (.ref f) = true
  ne : PySem.W.findIn K (.ref C) "__ne__" = some (some (.builtin "object.__ne__"))
  hm : PySem.W.mroIn K C (.type "object") = some true
/-- x == y, x != y: the left one an instance of C, or no own object is near -/
inductive REqO (K : PySem.W.Frag) (C : Addr) (sp : Sp) (neg : Bool) : V → V → Hp → VK → Prop
  | b {x y : V} {H : Hp} {Q : VK} : REq neg x y H Q → REqO K C sp neg x y H Q
  | o {a dx : Addr} {fs : List (Str × V)} {y : V} {t : Value} {H : Hp} {Q : VK} : H a = some (.ins C dx fs) → Ty K H y t → PySem.W.notFirst K C t = true →
      sp [.ref a, y] H (fun v H' => ∃ c, v = .bl c ∧ Q (.bl (if neg then !c else c)) H') (fun _ _ _ => False) → REqO K C sp neg (.ref a) y H Q
section
variable {X : Cx} {k : Nat} {f C : Addr} {sp : Sp} {ps : List Str}
theorem op_eqO (E : EqC X.K C f) (F : FnG X.prog X.w X.K X.mg X.base k f ps sp) (hb : Binds X.K (fdOf X.K f) ps []) (hgu : X.A.guards = some []) (hr : Room (k + 1) X.A) : OpR X (compareOp .Eq) (REqO X.K C sp false) := by
  intro pins s σ H x y v u Q I rx ry h
  cases h with
  | b q => exact op_eqU hr.units pins s σ H _ _ v u Q I rx ry q
  | @o a dx fs _ t _ _ e ty hn q =>
    obtain rfl : v = Value.ref a := rx
    obtain ⟨ox, od, J⟩ := ins_at I e
    obtain ⟨P, Z, p, _⟩ := ty_of I ry ty
    obtain ⟨m, hF⟩ := I.fr
    refine PySem.W.cmp_K (op := .Eq) hr.units0 hF I.ok.mod.kin J (Z.ty _ _ I.kIn p) hn E.eq E.fn ?_
    refine wpAny_mono (run_at F hgu rfl (hr.mono (Nat.le_succ _)) hb I (.cons (show L2.RelV (.ref a) (.ref a) from rfl) (.cons ry .nil)) q) (fun u' s' hu => ?_) fun _ _ z => z
    obtain ⟨w, H', I', rw', c, rfl, q'⟩ := hu
    obtain rfl : u' = Value.bool c := rw'
    exact ⟨.bl c, H', I', rfl, q'⟩
theorem op_neO (E : EqC X.K C f) (F : FnG X.prog X.w X.K X.mg X.base k f ps sp) (hb : Binds X.K (fdOf X.K f) ps []) (hgu : X.A.guards = some []) (hr : Room (k + 1) X.A) : OpR X (compareOp .NotEq) (REqO X.K C sp true) := by
  intro pins s σ H x y v u Q I rx ry h
  cases h with
  | b q => exact op_neU hr.units pins s σ H _ _ v u Q I rx ry q
  | @o a dx fs _ t _ _ e ty hn q =>
    obtain rfl : v = Value.ref a := rx
    obtain ⟨ox, od, J⟩ := ins_at I e
    obtain ⟨P, Z, p, _⟩ := ty_of I ry ty
    show wpAny (model X.prog X.w) X.A (richCompare .NotEq (.ref a) u) (EP X pins σ Q) X.xe s
    refine cmp_ne hr.in1.units0 I.kIn J (Z.ty _ _ I.kIn p) hn E.ne E.hm E.eq E.fn ?_
    refine wpAny_mono (run_at F (by exact hgu) rfl hr.in1 hb I (.cons (show L2.RelV (.ref a) (.ref a) from rfl) (.cons ry .nil)) q) (fun u' s' hu => ?_) fun _ _ z => z
    obtain ⟨w, H', I', rw', c, rfl, q'⟩ := hu
    obtain rfl : u' = Value.bool c := rw'
    exact ⟨c, rfl, ⟨.bl (!c), H', I', rfl, q'⟩⟩
end
/-! ### repr, str, len -/
/-- repr(x) of an instance of C, or of data -/
inductive RReprO (C : Addr) (sp : Sp) : List V → Hp → VK → Prop
  | b {xs : List V} {H : Hp} {Q : VK} : rRepr xs H Q → RReprO C sp xs H Q
  | o {a dx : Addr} {fs : List (Str × V)} {H : Hp} {Q : VK} : H a = some (.ins C dx fs) → sp [.ref a] H (fun v H' => ∃ z, v = .str z ∧ Q (.str z) H') (fun _ _ _ => False) → RReprO C sp [.ref a] H Q
inductive RStrO (C : Addr) (sp : Sp) : List V → Hp → VK → Prop
  | b {xs : List V} {H : Hp} {Q : VK} : RStr xs H Q → RStrO C sp xs H Q
  | o {a dx : Addr} {fs : List (Str × V)} {H : Hp} {Q : VK} : H a = some (.ins C dx fs) → sp [.ref a] H (fun v H' => ∃ z, v = .str z ∧ Q (.str z) H') (fun _ _ _ => False) → RStrO C sp [.ref a] H Q
section
variable {X : Cx} {k : Nat} {f C : Addr} {sp : Sp} {ps : List Str}
theorem call_reprO (hc : PySem.W.findIn X.K (.ref C) "__repr__" = some (some (.ref f))) (hf : PySem.W.isFn X.K (.ref f) = true) (F : FnG X.prog X.w X.K X.mg X.base k f ps sp) (hb : Binds X.K (fdOf X.K f) ps []) (hgu : X.A.guards = some []) (hr : Room (k + 1) X.A) (hs : HasSys X.K) :
    CallR X (.builtin "repr") (RReprO C sp) := by
  intro pins s σ H xs us Q I r h
  cases h with
  | b q => exact call_repr hgu hr hs pins s σ H _ us Q I r q
  | @o a dx fs _ _ e q =>
    obtain ⟨u, rfl, ru⟩ := vals1 r
    cases ru
    obtain ⟨ox, od, J⟩ := ins_at I e
    obtain ⟨m, hF⟩ := I.fr
    refine PySem.W.repr_K hr.in1.units0 hF I.ok.mod.kin J hc hf ?_
    refine wpAny_mono (run_at F (by exact hgu) rfl hr.in1 hb I (.cons (show L2.RelV (.ref a) (.ref a) from rfl) .nil) q) (fun u' s' hu => ?_) fun _ _ z => z
    obtain ⟨w, H', I', rw', z, rfl, q'⟩ := hu
    obtain ⟨t, rfl⟩ := rw'
    exact ⟨.str z, H', I', ⟨t, rfl⟩, q'⟩
theorem call_strO (hc : PySem.W.findIn X.K (.ref C) "__str__" = some (some (.ref f))) (hf : PySem.W.isFn X.K (.ref f) = true) (F : FnG X.prog X.w X.K X.mg X.base k f ps sp) (hb : Binds X.K (fdOf X.K f) ps []) (hgu : X.A.guards = some []) (hr : Room (k + 2) X.A) :
    CallR X (.type "str") (RStrO C sp) := by
  intro pins s σ H xs us Q I r h
  cases h with
  | b q => exact call_strU pins s σ H _ us Q I r q
  | @o a dx fs _ _ e q =>
    obtain ⟨u, rfl, ru⟩ := vals1 r
    cases ru
    obtain ⟨ox, od, J⟩ := ins_at I e
    refine PySem.W.kso_call hr.in1.in1.units0 I.kIn J hc hf ?_
    refine wpAny_mono (run_at F (by exact hgu) rfl hr.in1.in1 hb I (.cons (show L2.RelV (.ref a) (.ref a) from rfl) .nil) q) (fun u' s' hu => ?_) fun _ _ z => z
    obtain ⟨w, H', I', rw', z, rfl, q'⟩ := hu
    obtain ⟨t, rfl⟩ := rw'
    exact ⟨.str z, H', I', ⟨t, rfl⟩, q'⟩
end
end Wk

set_option maxRecDepth 100000
set_option maxHeartbeats 4000000
/-! Fields, methods, new instances, with keywords; steps over the heap in two parts. -/
namespace Wk
open PySem PySem.Spec PyProof.Rows L2
/-! ### an own class's facts in one -/
structure PC (K : PySem.W.Frag) (C : Addr) (fl : List Str) : Prop where
  c : Cls K C
  n : ∀ f ∈ fl, NoAttr K C f
def FldP (K : PySem.W.Frag) (f : Str) (x : V) (H : Hp) (Q : VK) : Prop := ∃ a C dx fs v, x = .ref a ∧ H a = some (.ins C dx fs) ∧ Cls K C ∧ NoAttr K C f ∧ fs.lookup f = some v ∧ Q v H
def SFldP (K : PySem.W.Frag) (f : Str) (x y : V) (H : Hp) (N : Hp → Prop) : Prop := ∃ a C dx fs, x = .ref a ∧ H a = some (.ins C dx fs) ∧ Cls K C ∧ NoAttr K C f ∧ fs.length < 1000 ∧ N (upd H a (.ins C dx (putF f y fs)))
def MethP (C : Addr) (m : Str) (x : V) (H : Hp) (N : Prop) : Prop := ∃ a dx fs, x = .ref a ∧ H a = some (.ins C dx fs) ∧ fs.lookup m = none ∧ N
def MakeP (C : Addr) (sp : Sp) (vs : V → List V) (H : Hp) (Q : VK) (E : XK) : Prop := ∀ x dx, H x = none → H dx = none → dx ≠ x → sp (vs (.ref x)) (upd (upd H dx (.own x)) x (.ins C dx [])) (fun v H2 => v = .non ∧ Q (.ref x) H2) E
section
variable {K : PySem.W.Frag} {σ : L2.St} {H D : Hp} {R : Cells} {Q : VK} {ta tv : TE} {t tk : TA} {f m : Str} {C a dx : Addr} {fs : List (Str × V)} {fl : List Str} {x y v : V} {sp : Sp} {dvs : List V} {E : L2.St → XK} {Ds : Ends}
theorem se_fld (h : ta σ H fun x H1 => FldP K f x H1 Q) : tFld K ta f σ H Q := h
theorem st_fld (h : tv σ H fun y H1 => ta σ H1 fun x H2 => SFldP K f x y H2 fun H3 => Ds.nx σ H3) : sFld K ta tv f Ds σ H := h
theorem fld_mk (e : H a = some (.ins C dx fs)) (pc : PC K C fl) (hf : f ∈ fl) (l : fs.lookup f = some v) (q : Q v H) : FldP K f (.ref a) H Q := ⟨a, C, dx, fs, v, rfl, e, pc.c, pc.n f hf, l, q⟩
theorem sfld_now {N : Hp → Prop} (hi : HI H ((a, .ins C dx fs) :: R) D) (pc : PC K C fl) (hf : f ∈ fl) (hl : fs.length < 1000) (k : ∀ H', HI H' ((a, .ins C dx (putF f y fs)) :: R) D → N H') : SFldP K f (.ref a) y H N :=
  ⟨a, C, dx, fs, rfl, hi.get (List.mem_cons_self ..), pc.c, pc.n f hf, hl, k _ hi.set⟩
theorem se_meth (h : ta σ H fun x H1 => MethP C m x H1 (t σ H1 fun vs H2 => sp (x :: (vs ++ dvs)) H2 Q (E σ))) : gMeth C m sp dvs E ta t σ H Q := h
theorem meth_mk {N : Prop} (e : H a = some (.ins C dx fs)) (l : fs.lookup m = none) (h : N) : MethP C m (.ref a) H N := ⟨a, dx, fs, rfl, e, l, h⟩
theorem se_make (h : t σ H fun vs H1 => MakeP C sp (fun x => x :: (vs ++ dvs)) H1 Q (E σ)) : gMake C sp dvs E t σ H Q := h
theorem make_now {vs : V → List V} {E : XK} (hi : HI H R D) (k : ∀ x dx H', HI H' ((x, .ins C dx []) :: (dx, .own x) :: R) D → sp (vs (.ref x)) H' (fun v H2 => v = .non ∧ Q (.ref x) H2) E) : MakeP C sp vs H Q E := fun x dx hx hd ne => by
  have h1 := hi.new (o := .own x) hd
  exact k x dx _ (h1.new (o := .ins C dx []) (by rw [upd_ne ne.symm]; exact hx))
theorem made_mk {P : Hp → Prop} {H : Hp} (h : P H) : (V.non = V.non) ∧ P H := ⟨rfl, h⟩
end
/-- the instance stands -/
theorem HI.freezeI {H D : Hp} {R : Cells} {a dx C : Addr} {fs : List (Str × V)} (h : HI H ((a, .ins C dx fs) :: (dx, .own a) :: R) D) : ∃ D', HI H R D' ∧ Ex D D' ∧ D' a = some (.ins C dx fs) := by
  have h1 := h.freeze
  have h2 := h1.freeze
  refine ⟨_, h2, h.freezeX.trans h1.freezeX, ?_⟩
  have ne : a ≠ dx := fun e => by
    have nd := h.nd
    simp only [List.map_cons] at nd
    exact (List.nodup_cons.mp nd).1 (by rw [e]; exact List.mem_cons_self ..)
  rw [upd_ne ne]
  exact upd_same
/-! ### calls with keywords -/
def gMethN (C : Addr) (m : Str) (n j : Nat) (sp : Sp) (gV : List V → List V → List V) (E : L2.St → XK) (ta : TE) (t tk : TA) : TE := fun σ H Q => ta σ H fun x H1 => MethP C m x H1 (t σ H1 fun vs H2 => tk σ H2 fun zs H3 => vs.length = n ∧ zs.length = j ∧ sp (gV (x :: vs) zs) H3 Q (E σ))
def gMakeN (C : Addr) (n j : Nat) (sp : Sp) (gV : List V → List V → List V) (E : L2.St → XK) (t tk : TA) : TE := fun σ H Q => t σ H fun vs H1 => tk σ H1 fun zs H2 => vs.length = n ∧ zs.length = j ∧ MakeP C sp (fun x => gV (x :: vs) zs) H2 Q (E σ)
section
variable {X : Cx} {k n : Nat} {f C : Addr} {ps ks : List Str} {sp : Sp} {E : L2.St → XK} {x m : Str} {p pos apos : Pos} {e o : Expr} {es : List Expr} {kws : List Keyword} {t tk : TA} {ta : TE} {gV : List V → List V → List V}
theorem ge_methN {pl : Sem Bool} (he : PE X o ta) (c : Cls X.K C) (hm : Meth X.K C m f) (F : FnG X.prog X.w X.K X.mg X.base k f ps sp) (hgu : X.A.guards = some []) (hr : Room k X.A) (hb : KB X.K (fdOf X.K f) ps (n + 1) ks gV) (hx : ∀ σ, PassG X σ (E σ)) (ha : PA X (e :: es) t) (hkw : PK X kws tk)
    (hall : (backToKw pos (keywordEach kws X.env)).all (·.1.isSome) = true := by rfl) (hks : (backToKw pos (keywordEach kws X.env)).filterMap (·.1) = ks := by rfl) (hst : starEach (e :: es) X.env = (false, eval e X.env) :: starEach es X.env := by rfl)
    (hpl : ((backTo pos (starEach (e :: es) X.env)).any (·.1) || (backToKw pos (keywordEach kws X.env)).any (·.1.isNone)) = false := by rfl)
    (ht : eval (.Call (.Attribute o m apos) (e :: es) kws pos) X.env = (do
      let ov ← eval o X.env
      standAt apos.atName
      let (f, first) ← holding [ov] (getMethod ov m pl)
      callWith pos f first (backTo pos (starEach (e :: es) X.env)) (backToKw pos (keywordEach kws X.env))) := by rfl) :
    PE X (.Call (.Attribute o m apos) (e :: es) kws pos) (gMethN C m n ks.length sp gV E ta t tk) := by
  refine ⟨fun pins s σ H Q I h => ?_⟩
  refine PySem.W.methodCall_KW (pl := pl) (thn (he.run pins s σ H _ I h) fun u s1 ⟨x, H1, I1, rx, a, dx, fs, ex, ea, l, q⟩ => ?_) ht
  subst ex
  obtain rfl : u = Value.ref a := rx
  refine getmeth_ok I1 ea c hm l ?_
  refine PySem.W.callWith_KW (first := [.ref a]) (h₀ := X.base) I.ok.mod.kin hm.kp hall (thn (ha.run pos pins s1 σ H1 _ I1 q) fun us s2 ⟨vs, H2, I2, r, q2⟩ => ?_) hpl hst
  refine thn (hkw.run pos pins s2 σ H2 _ I2 q2) fun ws s3 ⟨zs, H3, I3, rz, l1, l2, q3⟩ => ⟨I3.kIn, ?_⟩
  rw [hks]
  exact run_gN (us := Value.ref a :: us) (vs := V.ref a :: vs) F hgu hr hb (hx σ) I3 (.cons (show L2.RelV (.ref a) (.ref a) from rfl) r) rz (congrArg Nat.succ l1) l2 q3
theorem ge_methK {pl : Sem Bool} (he : PE X o ta) (c : Cls X.K C) (hm : Meth X.K C m f) (F : FnG X.prog X.w X.K X.mg X.base k f ps sp) (hgu : X.A.guards = some []) (hr : Room k X.A) (hb : KB X.K (fdOf X.K f) ps 1 ks gV) (hx : ∀ σ, PassG X σ (E σ)) (hkw : PK X kws tk)
    (hall : (backToKw pos (keywordEach kws X.env)).all (·.1.isSome) = true := by rfl) (hks : (backToKw pos (keywordEach kws X.env)).filterMap (·.1) = ks := by rfl)
    (hpl : ((backTo pos (starEach [] X.env)).any (·.1) || (backToKw pos (keywordEach kws X.env)).any (·.1.isNone)) = false := by rfl)
    (ht : eval (.Call (.Attribute o m apos) [] kws pos) X.env = (do
      let ov ← eval o X.env
      standAt apos.atName
      let (f, first) ← holding [ov] (getMethod ov m pl)
      callWith pos f first (backTo pos (starEach [] X.env)) (backToKw pos (keywordEach kws X.env))) := by rfl) :
    PE X (.Call (.Attribute o m apos) [] kws pos) (gMethN C m 0 ks.length sp gV E ta tNil tk) := by
  refine ⟨fun pins s σ H Q I h => ?_⟩
  refine PySem.W.methodCall_KW (pl := pl) (thn (he.run pins s σ H _ I h) fun u s1 ⟨x, H1, I1, rx, a, dx, fs, ex, ea, l, q⟩ => ?_) ht
  subst ex
  obtain rfl : u = Value.ref a := rx
  refine getmeth_ok I1 ea c hm l ?_
  refine PySem.W.callWith_KW0 (first := [.ref a]) (h₀ := X.base) I.ok.mod.kin hm.kp hall ?_ hpl
  refine thn (hkw.run pos pins s1 σ H1 _ I1 q) fun ws s3 ⟨zs, H3, I3, rz, l1, l2, q3⟩ => ⟨I3.kIn, ?_⟩
  rw [hks]
  exact run_gN (us := [Value.ref a]) (vs := [V.ref a]) F hgu hr hb (hx σ) I3 (.cons (show L2.RelV (.ref a) (.ref a) from rfl) .nil) rz rfl l2 q3
theorem run_mk {pins : List (Addr × Obj)} {σ : L2.St} {H : Hp} {s : Shared} {Q : VK} {us ws : List Value} {vs zs : List V} (M : Mk X.K C f) (F : FnG X.prog X.w X.K X.mg X.base k f ps sp) (hgu : X.A.guards = some []) (hr : Room (k + 1) X.A) (hb : KB X.K (fdOf X.K f) ps (n + 1) ks gV) (hx : PassG X σ (E σ))
    (I : Inv X pins σ H s) (r : Vals vs us) (rz : Vals zs ws) (l1 : vs.length = n) (l2 : zs.length = ks.length) (h : MakeP C sp (fun x => gV (x :: vs) zs) H Q (E σ)) : wpAny (model X.prog X.w) X.A (call (.ref C) us (ks.zip ws)) (EP X pins σ Q) X.xe s := by
  obtain ⟨g, hb⟩ := hb
  exact run_makeG M F hgu hr hx I (fun y => gV (y :: vs) zs) (fun y => g (y :: us) ws) (fun y s' KX => hb.to s' (Value.ref y :: us) ws KX (congrArg Nat.succ (r.length.symm.trans l1)) (rz.length.symm.trans l2)) (fun y => hb.rel (.cons (show L2.RelV (.ref y) (.ref y) from rfl) r) rz) h
/-- C(e, .., k = v, ..) -/
theorem ge_makeN (M : Mk X.K C f) (F : FnG X.prog X.w X.K X.mg X.base k f ps sp) (hgu : X.A.guards = some []) (hr : Room (k + 1) X.A) (hg : Gl X x) (hm : X.mg x = some (.ref C)) (hb : KB X.K (fdOf X.K f) ps (n + 1) ks gV) (hx : ∀ σ, PassG X σ (E σ)) (ha : PA X (e :: es) t) (hkw : PK X kws tk)
    (hdb : (x == ("__debug__" : Str)) = false := by decide) (hall : (backToKw pos (keywordEach kws X.env)).all (·.1.isSome) = true := by rfl) (hks : (backToKw pos (keywordEach kws X.env)).filterMap (·.1) = ks := by rfl)
    (he : starEach (e :: es) X.env = (false, eval e X.env) :: starEach es X.env := by rfl)
    (hpl : ((backTo pos (starEach (e :: es) X.env)).any (·.1) || (backToKw pos (keywordEach kws X.env)).any (·.1.isNone)) = false := by rfl) :
    PE X (.Call (.Name x p) (e :: es) kws pos) (gMakeN C n ks.length sp gV E t tk) := by
  refine ⟨fun pins s σ H Q I h => ?_⟩
  refine wpAny_Call_Name_kw (ld_glob I hg hm ?_ hdb)
  refine PySem.W.callWith_KW (h₀ := X.base) I.ok.mod.kin M.kp hall (thn (ha.run pos pins s σ H _ I h) fun us s1 ⟨vs, H1, I1, r, q⟩ => ?_) hpl he
  refine thn (hkw.run pos pins s1 σ H1 _ I1 q) fun ws s2 ⟨zs, H2, I2, rz, l1, l2, q2⟩ => ⟨I2.kIn, ?_⟩
  rw [hks]
  exact run_mk M F hgu hr hb (hx σ) I2 r rz l1 l2 q2
/-- C(k = v, ..) -/
theorem ge_makeK (M : Mk X.K C f) (F : FnG X.prog X.w X.K X.mg X.base k f ps sp) (hgu : X.A.guards = some []) (hr : Room (k + 1) X.A) (hg : Gl X x) (hm : X.mg x = some (.ref C)) (hb : KB X.K (fdOf X.K f) ps 1 ks gV) (hx : ∀ σ, PassG X σ (E σ)) (hkw : PK X kws tk)
    (hdb : (x == ("__debug__" : Str)) = false := by decide) (hall : (backToKw pos (keywordEach kws X.env)).all (·.1.isSome) = true := by rfl) (hks : (backToKw pos (keywordEach kws X.env)).filterMap (·.1) = ks := by rfl)
    (hpl : ((backTo pos (starEach [] X.env)).any (·.1) || (backToKw pos (keywordEach kws X.env)).any (·.1.isNone)) = false := by rfl) :
    PE X (.Call (.Name x p) [] kws pos) (gMakeN C 0 ks.length sp gV E tNil tk) := by
  refine ⟨fun pins s σ H Q I h => ?_⟩
  refine wpAny_Call_Name_kw (ld_glob I hg hm ?_ hdb)
  refine PySem.W.callWith_KW0 (h₀ := X.base) I.ok.mod.kin M.kp hall ?_ hpl
  refine thn (hkw.run pos pins s σ H _ I h) fun ws s2 ⟨zs, H2, I2, rz, l1, l2, q2⟩ => ⟨I2.kIn, ?_⟩
  rw [hks]
  exact run_mk (us := []) (vs := []) M F hgu hr hb (hx σ) I2 .nil rz rfl l2 q2
theorem se_methN {σ : L2.St} {H : Hp} {Q : VK} {j : Nat} (h : ta σ H fun x H1 => MethP C m x H1 (t σ H1 fun vs H2 => tk σ H2 fun zs H3 => vs.length = n ∧ zs.length = j ∧ sp (gV (x :: vs) zs) H3 Q (E σ))) : gMethN C m n j sp gV E ta t tk σ H Q := h
theorem se_makeN {σ : L2.St} {H : Hp} {Q : VK} {j : Nat} (h : t σ H fun vs H1 => tk σ H1 fun zs H2 => vs.length = n ∧ zs.length = j ∧ MakeP C sp (fun x => gV (x :: vs) zs) H2 Q (E σ)) : gMakeN C n j sp gV E t tk σ H Q := h
end
/-! ### facts by looking -/
def insB (n : Str) (K : PySem.W.Frag) : Bool := He.eqO (PySem.W.findIn K (.ref (He.ga K n)) "__class__") (some (some (.builtin "object.__class__"))) && (He.eqO (PySem.W.specialIn K (.builtin "object.__class__") "__get__") (some (some (.builtin "getset_descriptor.__get__"))) && (eqB (PySem.W.takesIn K (.builtin "object.__class__")) (some true) && eqB (PySem.W.mroIn K (He.ga K n) (.type "object")) (some true)))
theorem ins_ok {K : PySem.W.Frag} {n : Str} (c : Cls K (He.ga K n)) (h : insB n K = true) : InsC K (He.ga K n) := by
  obtain ⟨a, h⟩ := He.ba h
  obtain ⟨b, h⟩ := He.ba h
  obtain ⟨d, e⟩ := He.ba h
  exact ⟨c, He.eqO_ok a, He.eqO_ok b, of_decide_eq_true d, of_decide_eq_true e⟩
def pcB (n : Str) (fl : List Str) (K : PySem.W.Frag) : Bool := fl.all fun f => (He.Fa.noat n f).ok K
theorem pc_ok {K : PySem.W.Frag} {n : Str} {fl : List Str} (c : Cls K (He.ga K n)) (h : pcB n fl K = true) : PC K (He.ga K n) fl := ⟨c, fun f hf => He.noat_ok (List.all_eq_true.mp h f hf)⟩
def neB (n : Str) (K : PySem.W.Frag) : Bool := He.eqO (PySem.W.findIn K (.ref (He.ga K n)) "__ne__") (some (some (.builtin "object.__ne__")))
theorem eqc_ok {K : PySem.W.Frag} {n : Str} {f : Addr} (i : InsC K (He.ga K n)) (m : Meth K (He.ga K n) "__eq__" f) (h : neB n K = true) : EqC K (He.ga K n) f := ⟨m.at_, m.fn, He.eqO_ok h, i.hm⟩
def nfB (n : Str) (K : PySem.W.Frag) : Bool := seven.all fun t => PySem.W.notFirst K (He.ga K n) (.type t)
def nfC (n x : Str) (K : PySem.W.Frag) : Bool := PySem.W.notFirst K (He.ga K n) (.ref (He.ga K x))
/-- f"{x}" is str(x) -/
def fmB (n : Str) (K : PySem.W.Frag) : Bool := He.eqO (PySem.W.findIn K (.ref (He.ga K n)) "__format__") (some (some (.builtin "object.__format__")))
/-- no kit type stands above the class -/
def sbB (n : Str) (K : PySem.W.Frag) : Bool := seven.all fun t => eqB (PySem.W.subIn K (.ref (He.ga K n)) (.type t)) (some false)
def kbB (n : Str) (K : PySem.W.Frag) : Bool := seven.all fun t => eqB (PySem.W.kitOne K (.type t) (.ref (He.ga K n))) (some false)
def kiB (x n : Str) (b : Bool) (K : PySem.W.Frag) : Bool := eqB (PySem.W.kitOne K (.ref (He.ga K x)) (.ref (He.ga K n))) (some b)
/-! ### f-strings -/
inductive RFmt : V → Hp → VK → Prop
  | str {z : Str} {H : Hp} {Q : VK} : z.length ≤ 1000000 → Q (.str z) H → RFmt (.str z) H Q
  | int {i : Int} {H : Hp} {Q : VK} : i.natAbs.log2 < 1920 → Q (.str (toString i)) H → RFmt (.int i) H Q
def tFmtU (te : TE) : TE := fun σ H Q => te σ H fun x H1 => RFmt x H1 Q
theorem pe_fmtU {X : Cx} {e : Expr} {te : TE} {pos : Pos} (he : PE X e te) : PE X (.FormattedValue e (-1) none pos) (tFmtU te) := by
  refine ⟨fun pins s σ H Q I h => ?_⟩
  refine wpAny_FormattedValue_plain (thn (he.run pins s σ H _ I h) fun v s1 ⟨x, H1, I1, r1, q⟩ => ?_)
  cases q with
  | @str z _ _ hz q =>
    obtain ⟨t, rfl⟩ := r1
    exact wpAny_formatField_str ⟨.str z, H1, I1, ⟨t, rfl⟩, q⟩ ⟨.str z, H1, I1.tok _, ⟨_, rfl⟩, q⟩ (small_ok hz)
  | @int i _ _ hz q =>
    obtain ⟨t, rfl⟩ := r1
    exact wpAny_formatField_int hz ⟨.str (toString i), H1, I1.tok _, ⟨_, rfl⟩, q⟩
theorem sj_nil {σ : L2.St} {H : Hp} {acc : Str} {Q : Str → Hp → Prop} (h : Q acc H) : tJs [] acc σ H Q := h
theorem sj_cons {σ : L2.St} {H : Hp} {acc : Str} {t : TE} {ts : List TE} {Q : Str → Hp → Prop} (h : t σ H fun x H1 => ∃ y : Str, x = .str y ∧ (acc ++ y).length ≤ sizeLine ∧ tJs ts (acc ++ y) σ H1 Q) : tJs (t :: ts) acc σ H Q := h
theorem js_mk {acc z : Str} {P : Str → Prop} (hl : acc.length + z.length ≤ 1000000) (q : P z) : ∃ y : Str, V.str z = .str y ∧ (acc ++ y).length ≤ sizeLine ∧ P y := ⟨z, rfl, small_ok (by rw [len_app]; exact hl), q⟩
theorem se_fmt {te : TE} {σ : L2.St} {H : Hp} {Q : VK} (h : te σ H fun x H1 => RFmt x H1 Q) : tFmtU te σ H Q := h
end Wk

set_option maxRecDepth 100000
set_option maxHeartbeats 4000000
/-! try with several clauses `except X as e`; what the suite asks of its exception. -/
namespace Wk
open PySem PySem.Spec PyProof.Rows L2
/-- the clauses: each a name, bound; those that nothing reaches are left out -/
inductive HdsA (X : Cx) (Wout : WX) : List ExceptHandler → (Ends → WX) → Prop
  | nil : HdsA X Wout [] (fun _ => Wout)
  | never {hds : List ExceptHandler} : HdsA X Wout hds (fun _ _ _ _ _ => False)
  | asn {x n : Str} {c : Value} {i : Nat} {ts : Addr → Value → Option Addr → TS} {b₀ : Stmt} {suite : List Stmt} {np pos' : Pos} {hds : List ExceptHandler} {r : Ends → WX} (hi : X.N[i]? = some n) (hln : X.env.kindOf n = some .local) (hc : Names X x c)
      (hsu : ∀ (a : Addr) (oe : Obj) (cls : Value) (d : Option Addr) (pn : List (Addr × Obj)), Zc cls d oe → (∃ vs, oe.data = .fields vs) → PSs (X.suite a ((a, oe) :: pn)) (b₀ :: suite) (ts a cls d)) (hr : HdsA X Wout hds r) :
      HdsA X Wout (.ExceptHandler (some (.Name x np)) (some n) (b₀ :: suite) pos' :: hds) (fun D => wAs X.K c i ts (r D) D)
def tTryA (tb : WX → TS) (w : Ends → WX) : TS := fun D σ H => tb (w D) D σ H
section
variable {X : Cx} {body : List Stmt} {h₀ : ExceptHandler} {hds : List ExceptHandler} {pos : Pos} {tb : WX → TS} {Wout : WX} {w : Ends → WX}
theorem ps_try_A (hs : X.stack = X.env :: X.outer) (hf : X.env.frame = some X.env.locals) (hN : X.N.Nodup) (tk : Takes X Wout)
    (hb : ∀ (W : WX) (pn : List (Addr × Obj)) (xe : Value → Shared → Prop), Takes (X.tr pn xe) W → PassesOwn (model X.prog X.w) X.A X.env xe → PSs (X.tr pn xe) body (tb W))
    (hh : HdsA X Wout (h₀ :: hds) w) : PS X (.Try body (h₀ :: hds) [] [] pos) (tTryA tb w) := by
  refine ⟨fun pins s σ H D I h => ?_⟩
  have ok := I.ok
  have hfr : X.A.frames = some (X.env :: X.outer) := by rw [ok.frames, hs]
  refine wpAny_Try_except ?_
  refine wpAny_mono ((hb (w D) (X.pn ++ pins) (fun e s₁ => wpAny (model X.prog X.w) X.A (noteFrame e X.env) (fun _ s₂ => wpAny (model X.prog X.w) X.A (setFlight e none) (fun _ s₃ =>
    wpAny (model X.prog X.w) X.A (handleBy e X.env (h₀ :: hds)) (SP X pins D) X.xe s₃) X.xe s₂) X.xe s₁) (fun u s' xx => ?_) PassesOwn.looking).run [] s σ H D (I.toTry _) h) (fun f s1 hsp => ?_) (fun e s1 he => he)
  · -- the catch
    obtain ⟨a, B, sI, pins', σ', H', cls, d, rfl, J', nb, up, sky, na, os, ag, w'⟩ := xx
    have J : Inv X pins σ' H' sI := J'.ofTry ok
    have sky' : Sky B (X.env :: X.outer) a (Zc cls d) X.env.locals s'.heap := by rw [← hs]; exact sky
    show wpAny (model X.prog X.w) X.A (noteFrame (.ref a) X.env) _ _ _
    refine Sky.land Zc.steady hfr hf sky' fun h3 fl3 up3 => ?_
    have J3 : Inv X pins σ' H' { s' with heap := h3 } := J.landed nb fl3.1 (up.trans up3) os ag
    obtain ⟨oe3, vs3, he3, hz3, hd3⟩ := fl3.there
    have notFr : ∀ {h : Heap} {o : Obj} {vs : Array Value}, h.FunFrames B (X.env :: X.outer) → h.get? a = some o → o.data = .fields vs → a ∉ frs (X.env :: X.outer) := fun {h o vs} ff e dd hm => by
      obtain ⟨_, o', e', hnf⟩ := ff.mem hm
      rw [e] at e'; cases e'
      exact hnf _ dd
    have nfr := notFr fl3.2.2.1 he3 hd3
    have nL : a ≠ X.env.locals := fun z => nfr (List.mem_filterMap.mpr ⟨X.env, List.mem_cons_self, by rw [hf, z]⟩)
    have nF : a ∉ X.fs := fun hm => by
      obtain ⟨e, he, q⟩ := List.mem_filterMap.mp hm
      exact nfr (List.mem_filterMap.mpr ⟨e, List.mem_cons_of_mem _ he, q⟩)
    have S3 := J3.suite he3 hd3 na nL nF
    have go : ∀ {hds' : List ExceptHandler} {w2 : Ends → WX}, HdsA X Wout hds' w2 → w2 D cls d σ' H' →
        wpAny (model X.prog X.w) X.A (handleBy (.ref a) X.env hds') (SP X pins D) X.xe { s' with heap := h3 } := by
      intro hds' w2 hk
      induction hk with
      | never =>
        intro w
        exact w.elim
      | nil =>
        intro w
        refine wpAny_handleBy_nil ?_
        obtain ⟨k1, k2, k3, oe, vs, T, oT, ts', he, hz, hd, h1, hr⟩ := id fl3
        unfold PySem.passOn
        refine wpAny_bind (wpAny_field he hd h1 ?_)
        rw [if_neg (show ¬ ((Value.ref T == Value.none) = true) from by simp)]
        have fin : wpAny (model X.prog X.w) X.A (setFlight (.ref a) X.env.frame) (fun _ s4 => wpAny (model X.prog X.w) X.A (throw (.ref a) : Sem Flow) (SP X pins D) X.xe s4) X.xe { s' with heap := h3 } := by
          rw [hf]
          refine HandSPX.setFlight_upZ fl3 fun h4 hh4 up4 => wpAny_throw (tk _ _ ?_)
          exact ⟨a, B, sI, pins, σ', H', cls, d, rfl, J, nb, (up.trans up3).trans up4, .inr (.inr (by rw [hs]; exact hh4)), na, os, ag, w⟩
        first
          | exact wpAny_bind (wpAny_pure (wpAny_bind fin))
          | exact wpAny_bind fin
      | @asn x n c i ts b₀ suite np pos' hds2 r2 hi hln hc hsu r ih =>
        intro w
        obtain ⟨b, hb1, hyes, hno⟩ := w
        have hloc : Loc X.env.scope n := .inl hln
        refine wpAny_handleBy_cons (codeAny_handlers_test ?_) (by intro q; cases q)
        have LT : PySem.W.Looks (model X.prog X.w) h3 (typeOf (.ref a)) cls := fun A Q E s k q => wpAny_typeOf_ref (k _ _ he3) (by rw [hz3.1]; exact q)
        have LM := PySem.W.exm_one (M := model X.prog X.w) (J3.kIn) LT hb1
        have test : ∀ {Q : Value → Shared → Prop} {E : Value → Shared → Prop}, Q c { s' with heap := h3 } → wpAny (model X.prog X.w) (X.A.mark (some (.ref a))) (eval (.Name x np) X.env) Q E { s' with heap := h3 } := fun {Q E} q => by
          obtain ⟨hg, hdbg, hm | ⟨hm, hv, hnn⟩⟩ := hc
          · exact ld_glob (X := X.suite a ((a, oe3) :: (X.pn ++ pins))) S3 hg hm q hdbg
          · exact ld_blt (X := X.suite a ((a, oe3) :: (X.pn ++ pins))) S3 hg hm hv q hnn hdbg
        refine test (LM.here ?_)
        cases b with
        | true =>
          refine codeAny_handlers_suite_as ?_
          refine HandSPX.lands_againZ fl3 fun h4 fl4 up4 => ?_
          have J4 : Inv X pins σ' H' { s' with heap := h4 } := J.landed nb fl4.1 ((up.trans up3).trans up4) os ag
          obtain ⟨oe4, vs4, he4, hz4, hd4⟩ := fl4.there
          have S4 := J4.suite he4 hd4 na nL nF
          refine store_ok (X := X.suite a ((a, oe4) :: (X.pn ++ pins))) (v := .ref a) S4 hN hi hloc rfl (fun s5 S5 => ?_) (.inr hln)
          refine wpAny_mono ((hsu a oe4 cls d (X.pn ++ pins) hz4 ⟨_, hd4⟩).run [] s5 _ H' _ S5 (hyes rfl a na)) (fun f s6 hsp => ?_) (fun _ _ z => False.elim z)
          have end_ : ∀ {σ6 : L2.St} {H6 : Hp} {Q : Shared → Prop}, Inv (X.suite a ((a, oe4) :: (X.pn ++ pins))) [] σ6 H6 s6 → (∀ s7, Inv X pins (σ6.set i none) H6 s7 → Q s7) →
              wpAny (model X.prog X.w) X.A (do bindName X.env n .none; unbindBehindTheSuite X.env n pos') (fun _ s7 => Q s7) X.xe s6 := fun {σ6 H6 Q} S6 hq => gone_ok (S6.unsuite ok) hN hi hln hq
          cases f with
          | next =>
            obtain ⟨σ6, H6, S6, q6⟩ := hsp
            exact end_ S6 fun s7 J7 => ⟨_, _, J7, q6⟩
          | brk =>
            obtain ⟨σ6, H6, S6, q6⟩ := hsp
            exact end_ S6 fun s7 J7 => ⟨_, _, J7, q6⟩
          | cont =>
            obtain ⟨σ6, H6, S6, q6⟩ := hsp
            exact end_ S6 fun s7 J7 => ⟨_, _, J7, q6⟩
          | ret u =>
            obtain ⟨v6, σ6, H6, S6, r6, q6⟩ := hsp
            exact end_ S6 fun s7 J7 => ⟨_, _, _, J7, r6, q6⟩
        | false =>
          show wpAny _ X.A (handleBy (.ref a) X.env hds2) _ _ _
          exact ih (hno rfl)
    exact go hh w'
  · cases f with
    | next =>
      obtain ⟨σ', H', J', q⟩ := hsp
      exact wpAny_execs_nil ⟨σ', H', J'.ofTry ok, q⟩
    | brk =>
      obtain ⟨σ', H', J', q⟩ := hsp
      exact ⟨σ', H', J'.ofTry ok, q⟩
    | cont =>
      obtain ⟨σ', H', J', q⟩ := hsp
      exact ⟨σ', H', J'.ofTry ok, q⟩
    | ret u =>
      obtain ⟨v, σ', H', J', r, q⟩ := hsp
      exact ⟨v, σ', H', J'.ofTry ok, r, q⟩
end
/-! ### steps -/
section
variable {K : PySem.W.Frag} {σ : L2.St} {H : Hp} {Q : VK} {D : Ends} {tb : WX → TS} {w : Ends → WX} {cls : Value} {d : Option Addr} {c : Value} {i : Nat} {ts : Addr → Value → Option Addr → TS} {Wr : WX}
theorem st_try (h : tb (w D) D σ H) : tTryA tb w D σ H := h
def gone (D : Ends) (i : Nat) : Ends := { nx := fun σ' H' => D.nx (σ'.set i none) H', rt := D.rt, bk := fun σ' H' => D.bk (σ'.set i none) H', ct := fun σ' H' => D.ct (σ'.set i none) H' }
theorem as_yes (e : PySem.W.exmOne K cls c = some true) (h : ∀ a, H a = none → ts a cls d (gone D i) (σ.set i (some (.ref a))) H) : wAs K c i ts Wr D cls d σ H := ⟨true, e, fun _ => h, fun z => by cases z⟩
theorem as_no (e : PySem.W.exmOne K cls c = some false) (h : Wr cls d σ H) : wAs K c i ts Wr D cls d σ H := ⟨false, e, (fun z => by cases z), fun _ => h⟩
end
/-! ### the exception that the suite holds -/
def ByP (K : PySem.W.Frag) (f : Str) (a : Addr) (cls : Value) (d : Option Addr) (x : V) (H : Hp) (Q : VK) : Prop := x = .ref a ∧ ∃ (C dd : Addr) (v : V), cls = .ref C ∧ ExcC K C ∧ PySem.W.findIn K (.ref C) f = some none ∧ d = some dd ∧ H dd = some (.xd [(f, v)]) ∧ Q v H
def tByX (K : PySem.W.Frag) (f : Str) (a : Addr) (cls : Value) (d : Option Addr) (te : TE) : TE := fun σ H Q => te σ H fun x H1 => ByP K f a cls d x H1 Q
inductive RIsEX (K : PySem.W.Frag) (a : Addr) (cls : Value) (d : Option Addr) : List V → Hp → VK → Prop
  | one {C dd c : Addr} {fs : List (Str × V)} {b : Bool} {H : Hp} {Q : VK} : cls = .ref C → ExcC K C → d = some dd → H dd = some (.xd fs) → PySem.W.kitOne K (.ref C) (.ref c) = some b → Q (.bl b) H → RIsEX K a cls d [.ref a, .ref c] H Q
  | tup {C dd p : Addr} {fs : List (Str × V)} {cs : List Addr} {b : Bool} {H : Hp} {Q : VK} : cls = .ref C → ExcC K C → d = some dd → H dd = some (.xd fs) → H p = some (.tup (cs.map V.ref)) → PySem.W.kitAny K (.ref C) (cs.map Value.ref) = some b → Q (.bl b) H → RIsEX K a cls d [.ref a, .ref p] H Q
theorem vals_refs : ∀ {cs : List Addr} {us : List Value}, Vals (cs.map V.ref) us → us = cs.map Value.ref
  | [], _, .nil => rfl
  | c :: cs, _, .cons r rs => by
    rw [show List.map Value.ref (c :: cs) = Value.ref c :: cs.map Value.ref from rfl, ← vals_refs rs]
    cases r
    rfl
section
variable {X : Cx} {a : Addr} {oe : Obj} {cls : Value} {d : Option Addr} {pn : List (Addr × Obj)} {e : Expr} {te : TE} {pos : Pos} {f : Str}
theorem pe_byX (hz : Zc cls d oe) (hf : ∃ vs, oe.data = .fields vs) (he : PE (X.suite a ((a, oe) :: pn)) e te) (hb : attributeBase e f X.env (eval e X.env) = eval e X.env := by rfl) :
    PE (X.suite a ((a, oe) :: pn)) (.Attribute e f pos) (tByX X.K f a cls d te) := by
  refine ⟨fun pins s σ H Q I h => ?_⟩
  refine attr_of hb (thn (he.run pins s σ H _ I h) fun u s1 hh => ?_)
  obtain ⟨x, H1, I1, rx, ex, C, dd, v, ec, T, no, ed, ea, q⟩ := hh
  subst ex
  obtain rfl : u = Value.ref a := rx
  subst ec
  subst ed
  obtain ⟨ha, _⟩ := I1.pin (a, oe) (List.mem_append_left _ List.mem_cons_self)
  obtain ⟨vs, hd⟩ := hf
  have hx : ObjOk X.prog X.w H1 s1.heap dd (.xd [(f, v)]) := I1.hok dd _ ea
  obtain ⟨mA, hns, hr⟩ := hx
  obtain ⟨od, ho, hl⟩ := lookIn_ns hns
  have l : List.lookup f [(f, v)] = some v := by simp [List.lookup]
  obtain ⟨u, hu, ru⟩ := RelO.some_of (v := v) (o := mA f) (by rw [← l]; exact hr f)
  have J : PySem.W.InstAt s1.heap a oe C (some od) := ⟨ha, hz.1, by unfold PySem.W.notCls; rw [hd] <;> rfl, by rw [hz.2]; exact ho⟩
  exact HandSPX.exc_get I1.kIn J T.hg T.hk T.hs (PySem.W.findObj_own T.hd no rfl (by rw [hl, hu])) (handed_of ru) ⟨v, H1, I1.tok _, ru, q⟩
theorem call_isEX (hz : Zc cls d oe) (hf : ∃ vs, oe.data = .fields vs) : CallR (X.suite a ((a, oe) :: pn)) (.builtin "isinstance") (RIsEX X.K a cls d) := by
  intro pins s σ H xs us Q I r h
  obtain ⟨hget, _⟩ := I.pin (a, oe) (List.mem_append.mpr (.inl List.mem_cons_self))
  obtain ⟨vs, hv⟩ := hf
  have inst : ∀ {C dd : Addr} {fs : List (Str × V)}, cls = .ref C → d = some dd → H dd = some (.xd fs) → ∃ od, PySem.W.InstAt s.heap a oe C (some od) := fun {C dd fs} ec ed ea => by
    subst ec
    subst ed
    have hx : ObjOk X.prog X.w H s.heap dd (.xd fs) := I.hok dd _ ea
    obtain ⟨mA, hns, hr⟩ := hx
    obtain ⟨od, ho, hl⟩ := lookIn_ns hns
    exact ⟨od, hget, hz.1, by unfold PySem.W.notCls; rw [hv] <;> rfl, by rw [hz.2]; exact ho⟩
  cases h with
  | @one C dd c fs b _ _ ec E ed ea k q =>
    obtain ⟨u1, u2, rfl, r1, r2⟩ := vals2 r
    obtain rfl : u1 = Value.ref a := r1
    obtain rfl : u2 = Value.ref c := r2
    obtain ⟨od, J⟩ := inst ec ed ea
    exact PySem.W.kia_one (kitx_X E) I.kIn J k (fun z => nomatch z) fun tk => ⟨.bl b, H, I.kept (t' := tk) fun _ _ z => z, rfl, q⟩
  | @tup C dd p fs cs b _ _ ec E ed ea ep k q =>
    obtain ⟨u1, u2, rfl, r1, r2⟩ := vals2 r
    obtain rfl : u1 = Value.ref a := r1
    obtain rfl : u2 = Value.ref p := r2
    obtain ⟨od, J⟩ := inst ec ed ea
    obtain ⟨_, its, rv, o, h1, h2, n, h3⟩ := (show ObjOk X.prog X.w H s.heap p (.tup (cs.map V.ref)) from I.hok p _ ep)
    have e3 := vals_refs rv
    subst e3
    obtain ⟨oc, od2, dt, sl⟩ := o
    simp only at h2 h3
    subst h2 h3
    exact PySem.W.kia_tup (kitx_X E) I.kIn J h1 k (fun z => nomatch z) fun tk => ⟨.bl b, H, I.kept (t' := tk) fun _ _ z => z, rfl, q⟩
end
section
variable {K : PySem.W.Frag} {σ : L2.St} {H : Hp} {Q : VK} {te : TE} {f : Str} {a : Addr} {cls : Value} {d : Option Addr}
theorem se_by (h : te σ H fun x H1 => ByP K f a cls d x H1 Q) : tByX K f a cls d te σ H Q := h
theorem by_mk {C dd : Addr} {v : V} (E : ExcC K C) (no : PySem.W.findIn K (.ref C) f = some none) (ea : H dd = some (.xd [(f, v)])) (q : Q v H) : ByP K f a (.ref C) (some dd) (.ref a) H Q := ⟨rfl, C, dd, v, rfl, E, no, rfl, ea, q⟩
end
/-! ### facts -/
def exmB (x c : Str) (b : Bool) (K : PySem.W.Frag) : Bool := eqB (PySem.W.exmOne K (.ref (He.ga K x)) (.ref (He.ga K c))) (some b)
theorem kitAny_go {K : PySem.W.Frag} {t c : Value} {r : List Value} {b d : Bool} (h : PySem.W.kitOne K t c = some b) (hr : PySem.W.kitAny K t r = some d) : PySem.W.kitAny K t (c :: r) = some (b || d) := by
  cases b with
  | true => exact kitAny_cons h (fun e => by cases e) (fun _ => rfl)
  | false => exact kitAny_cons h (fun _ => hr) (fun e => by cases e)
end Wk

set_option maxRecDepth 100000
set_option maxHeartbeats 4000000
/-! repr of an own exception, alone and within a container. -/
namespace Wk
open PySem PySem.Spec PyProof.Rows L2
/-- the class's name as repr shows it -/
def exHd (K : PySem.W.Frag) (C : Addr) : Str := match K.lookup C with
  | some ⟨_, _, .cls cd, _⟩ => excReprHead cd.name.toString
  | _ => ""
/-- what the written part says of the class, so that repr may show its instances -/
structure ExQ (K : PySem.W.Frag) (C : Addr) : Prop where
  o : OexC K C
  hr : PySem.W.findIn K (.ref C) "__repr__" = some (some (.builtin "BaseException.__repr__"))
  hl : (exHd K C).length ≤ 100
def exqB (n : Str) (K : PySem.W.Frag) : Bool := He.eqO (PySem.W.findIn K (.ref (He.ga K n)) "__repr__") (some (some (.builtin "BaseException.__repr__"))) && decide ((exHd K (He.ga K n)).length ≤ 100)
theorem exq_ok2 {K : PySem.W.Frag} {mg : Str → Option Value} {n : Str} {fI : Addr} (T : ExK K mg n (He.ga K n) fI) (c : exqB n K = true) : ExQ K (He.ga K n) := by
  obtain ⟨a, b⟩ := He.ba c
  exact ⟨T.T, He.eqO_ok a, of_decide_eq_true b⟩
section
variable {prog : Program} {w : World} {A : Around} {E : Value → Shared → Prop} {s : Shared} {K : PySem.W.Frag} {C e t1 : Addr} {ox : Obj} {od : Option Obj} {m : Str} {tk : Tok}
open PySem.W PySem.Calls Builtin Builtin.BaseException Builtin.Exceptions
theorem csibBy {M : Model} {last : Value → List Value → Sem Value} {self : Value} {name : PySem.Str} {id : String} {Q : Option Value → Shared → Prop} (sp : Looks M s.heap (specialOf self name) (some (.builtin id))) (hb : bindSpecial (.builtin id) self = pure (.builtin id, [self]))
    (hc : wpAny M A (last (.builtin id) [self]) (fun v => Q (some v)) E s) : wpAny M A (callSpecialIfBoundBy? last self name) Q E s := by
  simp only [callSpecialIfBoundBy?, bindSpecialIfBound?]
  refine wpAny_holding (wpAny_bind (wpAny_bind (sp.here ?_)))
  refine wpAny_bind (wpAny_askSetting (wpAny_ite ?_))
  have fin : wpAny M A (last (.builtin id) [self] >>= fun v => pure (some v)) Q E s := wpAny_bind (wpAny_mono hc (fun v s' h' => wpAny_pure h') fun _ _ h' => h')
  split
  · exact wpAny_bind (wpAny_of_eq hb (wpAny_pure (by exact fin)))
  · exact wpAny_tryCatch (wpAny_bind (wpAny_of_eq hb (wpAny_pure (by exact fin))))
/-- an exception of the class at C, its args one text -/
structure XAt (K : PySem.W.Frag) (C : Addr) (h : Heap) (e : Addr) (m : Str) (tk : Tok) : Prop where
  q : ExQ K C
  k : K.In h
  i : ∃ t1 d, h.get? e = some ({ cls := .ref C, dict := d, data := .fields #[.ref t1, .none, .none, .none, .bool false, .none] } : Obj) ∧ h.TupAt t1 [.str m tk]
theorem XAt.keeps {h h' : Heap} (x : XAt K C h e m tk) (k : ∀ b o, h.get? b = some o → h'.get? b = some o) : XAt K C h' e m tk := by
  obtain ⟨q, X, t1, d, e1, e2⟩ := x
  exact ⟨q, X.keeps k, t1, d, k _ _ e1, e2.keeps k⟩
theorem XAt.type {M : Model} {h : Heap} (x : XAt K C h e m tk) : Looks M h (typeOf (.ref e)) (.ref C) := by
  obtain ⟨q, X, t1, d, e1, e2⟩ := x
  exact (Looks.ld e1).andThen .now
theorem XAt.sub {M : Model} {h : Heap} (x : XAt K C h e m tk) : Looks M h (isInstance (.ref e) (.type "BaseException")) true := x.type.andThen (looks_subIn x.k x.q.o.exC)
theorem bexc_bind (self : Value) : bindSpecial (.builtin "BaseException.__repr__") self = pure (.builtin "BaseException.__repr__", [self]) := by
  rfl
theorem XAt.hd {h : Heap} (x : XAt K C h e m tk) : ∃ cd, PySem.W.clsIn K C = some cd ∧ exHd K C = excReprHead cd.name.toString := by
  obtain ⟨q, X, t1, d, e1, ot, n, e2, e3, e4⟩ := id x
  obtain ⟨nm, qq, N, bs, bm, sn, sub, ab, col, dd, k0, k1, k2, k3, k5, hC, hbm⟩ := q.o.cls
  refine ⟨{ name := nm, bases := bs, mro := .ref C :: bm, ns := N, qualname := qq, hasDict := true, slotNames := sn, subclasses := sub, abstract := ab, collection := col, hasDel := false }, by unfold PySem.W.clsIn; rw [hC] <;> rfl, ?_⟩
  unfold exHd
  rw [hC]
theorem xat_name {M : Model} {Q : String → Shared → Prop} {cd : ClassData} (x : XAt K C s.heap e m tk) (hc : PySem.W.clsIn K C = some cd) (hq : Q cd.name.toString s) : wpAny M A (typeNameOfWhole (.ref e)) Q E s := by
  unfold typeNameOfWhole shownTypeOf
  refine wpAny_bind (wpAny_bind (x.type.here ?_))
  have ne : (Value.ref C == Value.type "builtin_function_or_method") = false := rfl
  simp only [ne, Bool.false_eq_true, if_false]
  refine wpAny_pure ?_
  unfold typeNameWhole
  refine wpAny_bind ((looks_clsIn x.k hc).here ?_)
  exact wpAny_pure hq
theorem xat_args {M : Model} {Q : Value × List Value → Shared → Prop} (x : XAt K C s.heap e m tk) (hq : ∀ t1, Q (.ref t1, [.str m tk]) s) : wpAny M A (bexcArgs (.ref e)) Q E s := by
  obtain ⟨q, X, t1, d, e1, ot, n, e2, e3, e4⟩ := id x
  unfold bexcArgs
  refine wpAny_bind (wpAny_field e1 rfl (x := .ref t1) rfl (wpAny_bind (wpAny_seqItems e2 e4 ?_)))
  exact wpAny_pure (hq t1)
theorem xat_body (b : Nat) {Q : Fin → Shared → Prop} (x : XAt K C s.heap e m tk)
    (hq : Q (.done (.ret (.str (exHd K C ++ "(" ++ reprText m ++ ")") (s.toks + 1)))) { s with toks := s.toks + 1 + 1 }) (hsz : b + (exHd K C ++ "(" ++ reprText m ++ ")").length ≤ sizeLine) :
    wpAny (model prog w) A (Builtin.bexcReprAt b ⟨[.ref e], []⟩) Q E s := by
  obtain ⟨cd, hc, hd⟩ := x.hd
  rw [hd] at hq hsz
  have e1 : b + (Str.ofString ((cd.name.toString.cutAt '.').getLastD "") ++ Str.ofString "(" ++ reprText m ++ Str.ofString ")").length ≤ sizeLine := hsz
  have hsz2 : (Str.ofString ((cd.name.toString.cutAt '.').getLastD "") ++ Str.ofString "(" ++ reprText m ++ Str.ofString ")").length ≤ sizeLine := Nat.le_trans (Nat.le_add_left _ b) e1
  have eP : (Str.ofString "(").length = 1 := by rw [PySem.ofString_length]; rfl
  rw [strLen_append, strLen_append, strLen_append, eP] at e1
  have hsz1 : (reprText m).length ≤ sizeLine := by omega
  have hpile : b + ((Str.ofString ((cd.name.toString.cutAt '.').getLastD "")).length + 1) ≤ sizeLine := by omega
  unfold Builtin.bexcReprAt
  repeat (first | with_reducible refine xat_name x hc ?_ | (with_reducible refine xat_args x ?_; intro t1) | rw [pyReprUnder_leaf (v := .str m tk) hpile (by intro a; nofun)] | with_reducible refine wpAny_pyRepr_str ?_ | wp_step)
  exact hq
theorem xat_under {b : Nat} {Q : Str → Shared → Prop} (hu : A.units < cLine) (x : XAt K C s.heap e m tk)
    (hq : Q (exHd K C ++ "(" ++ reprText m ++ ")") { s with toks := s.toks + 1 + 1 }) (hsz : b + (exHd K C ++ "(" ++ reprText m ++ ")").length ≤ sizeLine) : wpAny (model prog w) A (pyReprUnder b (.ref e)) Q E s := by
  refine wpAny_pyReprUnder_ref (by omega) ?_
  unfold pyReprObjUnder pyReprObjBy
  refine wpAny_bind (wpAny_cRoomFor hu ?_)
  have sp : ∀ M : Model, Looks M s.heap (specialOf (.ref e) "__repr__") (some (.builtin "BaseException.__repr__")) := fun M => x.type.andThen (looks_findIn x.k x.q.hr)
  refine wpAny_bind ((sp _).here ?_)
  refine wpAny_bind (csibBy (sp _) (bexc_bind _) ?_)
  show wpAny _ _ (call (.builtin "BaseException.__repr__.under") [.ref e, rawInt b]) _ _ _
  refine wpAny_call (codeAny_call_builtin F.plain_bexc_repr_under F.entry_bexc_repr_under ?_)
  rw [F.check_bexc_repr_under]
  refine wpAny_pure ?_
  show wpAny _ _ (reprTwin "BaseException.__repr__" bexcReprAt ⟨[.ref e, rawInt b], []⟩) _ _ _
  rw [reprTwin_eq]
  refine wpAny_bind (@check_slot (model prog w) _ _ s "BaseException.__repr__" "BaseException" "__repr__" (.ref e) [] [] _ (by decide +kernel) (by decide +kernel) x.sub (F.args_bexc_repr _) ?_)
  refine xat_body b x ?_ hsz
  refine wpAny_bind (wpAny_isInstance (T := "str") (b := true) rfl isSubtype_str_str ?_)
  exact wpAny_pure ⟨_, _, rfl, hq⟩
theorem xat_repr {Q : Value → Shared → Prop} (hu : A.units + 1 < cLine) (x : XAt K C s.heap e m tk)
    (hq : Q (.str (exHd K C ++ "(" ++ reprText m ++ ")") (s.toks + 1)) { s with toks := s.toks + 1 + 1 }) (hsz : (exHd K C ++ "(" ++ reprText m ++ ")").length ≤ sizeLine) : wpAny (model prog w) A (call (.builtin "repr") [.ref e]) Q E s := by
  refine Calls.call_function_entry F.kind_repr F.plain_repr F.entry_repr (F.args_repr1 _) ?_
  unfold Builtin.«repr»
  have sp : ∀ M : Model, Looks M s.heap (specialOf (.ref e) "__repr__") (some (.builtin "BaseException.__repr__")) := fun M => x.type.andThen (looks_findIn x.k x.q.hr)
  refine wpAny_bind (m := oneArg "repr" _) (wpAny_pure ?_)
  refine wpAny_bind (wpAny_cRoomFor (show A.in1.units < cLine from hu) ?_)
  refine wpAny_bind ((sp _).here ?_)
  refine wpAny_bind (m := callSpecialIfBound? (.ref e) (Str.ofString "__repr__")) (NtL.csib (args := []) (sp _) (bexc_bind _) ?_)
  refine wpAny_call (codeAny_call_builtin (by decide +kernel) F.entry_bexc_repr (@check_slot (model prog w) _ _ s "BaseException.__repr__" "BaseException" "__repr__" (.ref e) [] [] _ (by decide +kernel) (by decide +kernel) x.sub (F.args_bexc_repr _) ?_))
  refine xat_body 0 x ?_ (by omega)
  refine wpAny_bind (wpAny_isInstance (T := "str") (b := true) rfl isSubtype_str_str ?_)
  exact wpAny_pure ⟨_, rfl, hq⟩
end
end Wk

set_option maxRecDepth 100000
set_option maxHeartbeats 4000000
/-! Numbers that a text writes: two ways to reckon them. -/
namespace Wk
open PySem PySem.Spec PyProof.Rows L2 PySem.NumText
abbrev tl' (z : Str) : List Nat := z.cps.toList
def oV : Option Int → V
  | none => .non
  | some i => .int i
theorem str_ext {a b : Str} (h : tl' a = tl' b) : a = b := by
  obtain ⟨⟨a⟩⟩ := a
  obtain ⟨⟨b⟩⟩ := b
  have e : a = b := h
  rw [e]
theorem sIx_le' (n d : Nat) (k : Nat) : HT.sIx n d (some (k : Int)) = min k n := HT.sIx_nat n d k
theorem cut_drop (z : Str) (k : Nat) : tl' (cutS z (some (k : Int)) none) = (tl' z).drop k := by
  have hl : z.cps.toList.length = z.length := rfl
  show ((z.cps.toList.drop (HT.sIx z.length 0 (some (k : Int)))).take (HT.sIx z.length z.length none - HT.sIx z.length 0 (some (k : Int)))) = z.cps.toList.drop k
  rw [sIx_le', HT.sIx_none]
  by_cases h : k ≤ z.length
  · rw [Nat.min_eq_left h, List.take_of_length_le (by rw [List.length_drop, hl]; omega)]
  · rw [Nat.min_eq_right (by omega), List.drop_eq_nil_of_le (by rw [hl]; omega), List.drop_eq_nil_of_le (by rw [hl]; omega), List.take_nil]
theorem cut_take (z : Str) (k : Nat) : tl' (cutS z none (some (k : Int))) = (tl' z).take k := by
  have hl : z.cps.toList.length = z.length := rfl
  show ((z.cps.toList.drop (HT.sIx z.length 0 none)).take (HT.sIx z.length z.length (some (k : Int)) - HT.sIx z.length 0 none)) = z.cps.toList.take k
  rw [sIx_le', HT.sIx_none, List.drop_zero, Nat.sub_zero]
  by_cases h : k ≤ z.length
  · rw [Nat.min_eq_left h]
  · rw [Nat.min_eq_right (by omega), List.take_of_length_le (by rw [hl]; omega), List.take_of_length_le (by rw [hl]; omega)]
/-- a leading minus -/
def neg (l : List Nat) : Bool := decide (l.head? = some 45)
theorem starts_neg (z : Str) : Txt.startswith z "-" = neg (tl' z) := by
  obtain ⟨⟨l⟩⟩ := z
  unfold Txt.startswith Builtin.Str.subAt neg
  have e : (Str.ofString "-").cps = #[45] := rfl
  cases l with
  | nil => rfl
  | cons c r =>
    by_cases h : c = 45
    · subst h
      simp [Str.length, e, tl']
    · simp [Str.length, e, tl', h]
def figures (l : List Nat) : List Nat := if neg l then l.drop 1 else l
instance : DecidablePred AllDigits := fun l => inferInstanceAs (Decidable (∀ c ∈ l, 48 ≤ c ∧ c ≤ 57))
def figO (l : List Nat) : Option Int := if l = [] ∨ 10 < l.length ∨ ¬ AllDigits l then none else if l.head? = some 48 ∧ l ≠ [48] then none else some ((digitsVal l : Nat) : Int)
def inO (o : Option Int) (lo hi : Int) : Option Int := o.bind fun n => if lo ≤ n ∧ n ≤ hi then some n else none
def numO (l : List Nat) (lo hi : Int) : Option Int := match figO (figures l) with
  | none => none
  | some n => if neg l = true ∧ n = 0 then none else inO (some (if neg l then 0 - n else n)) lo hi
def valO (l : List Nat) : Option Int := if figures l = [] ∨ ((figures l).head? = some 48 ∧ l ≠ [48]) then none else if AllDigits (figures l) then some (if neg l then 0 - ((digitsVal (figures l) : Nat) : Int) else ((digitsVal (figures l) : Nat) : Int)) else none
theorem foldl_ge : ∀ (l : List Nat) (a : Nat), a * 10 ^ l.length ≤ l.foldl (fun acc c => acc * 10 + (c - 48)) a
  | [], a => by simp
  | c :: l, a => by
    rw [List.foldl_cons, List.length_cons]
    have ih := foldl_ge l (a * 10 + (c - 48))
    have h : a * 10 ^ (l.length + 1) ≤ (a * 10 + (c - 48)) * 10 ^ l.length := by
      rw [Nat.pow_succ, Nat.mul_comm (10 ^ l.length) 10, ← Nat.mul_assoc]
      exact Nat.mul_le_mul_right _ (by omega)
    exact Nat.le_trans h ih
theorem val_big {c : Nat} {l : List Nat} (h : 49 ≤ c) : 10 ^ l.length ≤ digitsVal (c :: l) := by
  unfold digitsVal
  rw [List.foldl_cons]
  have := foldl_ge l (0 * 10 + (c - 48))
  have h2 : 1 * 10 ^ l.length ≤ (0 * 10 + (c - 48)) * 10 ^ l.length := Nat.mul_le_mul_right _ (by omega)
  omega
/-- the two ways tell the same -/
theorem num_val {l : List Nat} {lo hi : Int} (h0 : -999999999 ≤ lo) (h1 : hi ≤ 1000000000) : numO l lo hi = inO (valO l) lo hi := by
  unfold numO valO
  generalize ef : figures l = f
  cases f with
  | nil => simp [figO, inO]
  | cons c r =>
    by_cases hd : AllDigits (c :: r)
    · by_cases h48 : c = 48
      · subst h48
        by_cases hr : r = []
        · subst hr
          have e1 : figO [48] = some 0 := by decide
          rw [e1]
          by_cases hn : neg l = true
          · have hl : l ≠ [48] := fun e => by
              rw [e] at hn
              exact absurd hn (by decide)
            simp [hn, hl, inO]
          · have hl : l = [48] := by
              unfold figures at ef
              rw [if_neg hn] at ef
              exact ef
            subst hl
            have e2 : digitsVal [48] = 0 := by decide
            have hn2 : neg [48] = false := by decide
            simp [hn2, e2, hd]
        · have e1 : figO (48 :: r) = none := by
            unfold figO
            by_cases hlen : 10 < (48 :: r).length
            · rw [if_pos (.inr (.inl hlen))]
            · rw [if_neg (by simp at hlen ⊢; exact ⟨by omega, hd⟩), if_pos ⟨rfl, by simp [hr]⟩]
          have hl : l ≠ [48] := fun e => by
            subst e
            have : (48 :: r) = [48] := by
              rw [← ef]
              decide
            simp at this
            exact hr this
          rw [e1]
          simp [hl, inO]
      · have hc : 49 ≤ c := by
          have := hd c (List.mem_cons_self ..)
          omega
        have hb := val_big (l := r) hc
        by_cases hlen : 10 < (c :: r).length
        · have e1 : figO (c :: r) = none := by
            unfold figO
            rw [if_pos (.inr (.inl hlen))]
          rw [e1]
          have hp : 10 ^ 10 ≤ 10 ^ r.length := Nat.pow_le_pow_right (by decide) (by simp at hlen; omega)
          have hv : (10000000000 : Nat) ≤ digitsVal (c :: r) := Nat.le_trans (by simpa using hp) hb
          generalize digitsVal (c :: r) = v at hv
          by_cases hn : neg l = true
          · simp [h48, hd, inO, hn]
            omega
          · simp [h48, hd, inO, hn]
            omega
        · have e1 : figO (c :: r) = some ((digitsVal (c :: r) : Nat) : Int) := by
            unfold figO
            rw [if_neg (by simp at hlen ⊢; exact ⟨by omega, hd⟩), if_neg (by simp [h48])]
          rw [e1]
          have hv : 1 ≤ digitsVal (c :: r) := Nat.le_trans (Nat.one_le_pow _ _ (by decide)) hb
          generalize digitsVal (c :: r) = v at hv
          have hz : ¬ (neg l = true ∧ ((v : Nat) : Int) = 0) := fun ⟨_, q⟩ => by omega
          show (if neg l = true ∧ ((v : Nat) : Int) = 0 then none else _) = _
          rw [if_neg hz]
          simp [h48, hd]
    · have e1 : figO (c :: r) = none := by
        unfold figO
        rw [if_pos (.inr (.inr hd))]
      rw [e1]
      simp [hd, inO]
theorem cut1_neg (z : Str) : decide (cutS z none (some 1) = Str.ofString "-") = neg (tl' z) := by
  unfold neg
  have e := cut_take z 1
  by_cases h : (tl' z).head? = some 45
  · rw [decide_eq_true h]
    refine decide_eq_true (str_ext (e.trans ?_))
    cases q : tl' z with
    | nil => rw [q] at h; cases h
    | cons c r =>
      rw [q] at h
      have : c = 45 := Option.some.inj h
      rw [this]
      rfl
  · rw [decide_eq_false h]
    refine decide_eq_false fun q => h ?_
    rw [show cutS z none (some 1) = cutS z none (some ((1 : Nat) : Int)) from rfl] at q
    rw [q] at e
    cases w : tl' z with
    | nil => rw [w] at e; exact absurd e (by decide)
    | cons c r =>
      rw [w] at e
      have : [45] = [c] := e
      rw [(List.cons.inj this).1]
      rfl
theorem dv_snoc {l : List Nat} {c : Nat} (h : 48 ≤ c) : ((digitsVal (l ++ [c]) : Nat) : Int) = 10 * ((digitsVal l : Nat) : Int) + ((c : Int) - 48) := by
  unfold digitsVal
  rw [List.foldl_append, List.foldl_cons, List.foldl_nil]
  omega
/-- the digit that a sign is -/
theorem find_digit {c : Nat} : Txt.find "0123456789" ⟨#[c]⟩ = if 48 ≤ c ∧ c ≤ 57 then (c : Int) - 48 else -1 := by
  by_cases h : 48 ≤ c ∧ c ≤ 57
  · rw [if_pos h]
    have : c = 48 ∨ c = 49 ∨ c = 50 ∨ c = 51 ∨ c = 52 ∨ c = 53 ∨ c = 54 ∨ c = 55 ∨ c = 56 ∨ c = 57 := by omega
    rcases this with e | e | e | e | e | e | e | e | e | e <;> subst e <;> decide +kernel
  · rw [if_neg h]
    have e := PySem.StrLaws.found_one "0123456789" c
    have n : decide (c ∈ (Str.ofString "0123456789").cps.toList) = false := decide_eq_false fun m => h (by
      rw [show (Str.ofString "0123456789").cps.toList = [48, 49, 50, 51, 52, 53, 54, 55, 56, 57] from rfl] at m
      simp at m
      omega)
    rw [n] at e
    unfold Txt.find
    generalize Builtin.Str.occurrences (Str.ofString "0123456789") ⟨#[c]⟩ 0 (Str.ofString "0123456789").length 1 = o at e ⊢
    cases o with
    | nil => rfl
    | cons a b => exact absurd e (by simp)
theorem in_digits {c : Nat} : decide (c ∈ (Str.ofString "0123456789").cps.toList) = decide (48 ≤ c ∧ c ≤ 57) := by
  rw [show (Str.ofString "0123456789").cps.toList = [48, 49, 50, 51, 52, 53, 54, 55, 56, 57] from rfl]
  by_cases h : 48 ≤ c ∧ c ≤ 57
  · rw [decide_eq_true h]
    refine decide_eq_true ?_
    simp
    omega
  · rw [decide_eq_false h]
    refine decide_eq_false fun m => h ?_
    simp at m
    omega
end Wk

set_option maxRecDepth 100000
set_option maxHeartbeats 4000000
/-! Texts all of whose signs are of a kind. -/
namespace Wk
open PySem PySem.Spec PyProof.Rows L2
def LP (P : Nat → Prop) (z : Str) : Prop := ∀ c ∈ z.cps.toList, P c
section
variable {P : Nat → Prop}
theorem LP.app {a b : Str} (h : LP P a) (k : LP P b) : LP P (a ++ b) := fun c hc => by
  rw [tl_app] at hc
  rcases List.mem_append.mp hc with h1 | h1
  · exact h c h1
  · exact k c h1
theorem LP.cut {z : Str} (h : LP P z) (lo hi : Option Int) : LP P (cutS z lo hi) := fun c hc => by
  unfold cutS at hc
  simp only at hc
  exact h c (List.mem_of_mem_drop (List.mem_of_mem_take (by simpa using hc)))
theorem LP.one {z : Str} {c : Nat} (h : LP P z) (m : c ∈ z.cps.toList) : LP P ⟨#[c]⟩ := fun d hd => by
  simp at hd
  rw [hd]
  exact h c m
def OnesP (P : Nat → Prop) (ys : List Str) : Prop := ∀ y ∈ ys, y.length = 1 ∧ LP P y
theorem OnesP.sum : ∀ {ys : List Str}, OnesP P ys → (ys.map (·.length)).sum = ys.length
  | [], _ => rfl
  | y :: ys, h => by
    have ih := OnesP.sum (ys := ys) fun z hz => h z (List.mem_cons_of_mem _ hz)
    have e := (h y (List.mem_cons_self ..)).1
    simp only [List.map_cons, List.sum_cons, List.length_cons, ih, e]
    omega
theorem OnesP.nil : OnesP P [] := fun y hy => by cases hy
theorem OnesP.snoc {ys : List Str} {z : Str} {c : Nat} (h : OnesP P ys) (hz : LP P z) (m : c ∈ z.cps.toList) : OnesP P (ys ++ [⟨#[c]⟩]) := fun y hy => by
  rcases List.mem_append.mp hy with h1 | h1
  · exact h y h1
  · rw [List.mem_singleton.mp h1]
    exact ⟨rfl, hz.one m⟩
theorem onesP_join : ∀ {ys : List Str}, OnesP P ys → (Txt.join "" ys).length = ys.length ∧ LP P (Txt.join "" ys)
  | [], _ => ⟨rfl, fun c hc => by simp [Txt.join, Builtin.Str.glued, Str.empty] at hc⟩
  | [y], h => by
    rw [TL.join_eq]
    show y.length = 1 ∧ LP P y
    exact h y (List.mem_cons_self ..)
  | x :: y :: r, h => by
    have ih := onesP_join (ys := y :: r) fun z hz => h z (List.mem_cons_of_mem _ hz)
    have hx := h x (List.mem_cons_self ..)
    rw [TL.join_eq] at ih ⊢
    show (x ++ "" ++ Str.join "" (y :: r)).length = _ ∧ LP P (x ++ "" ++ Str.join "" (y :: r))
    have e : (x ++ ("" : Str)) = x := PySem.Str.append_empty x
    rw [e, len_app, ih.1, hx.1]
    refine ⟨by simp only [List.length_cons]; omega, hx.2.app ih.2⟩
theorem len_tl (z : Str) : (tl' z).length = z.length := rfl
/-- a slice up to a place, between two places -/
theorem rsl_to {z : Str} {k : Int} {H : Hp} {Q : VK} (hl : z.length ≤ 1000000) (k0 : 0 ≤ k) (s : LP P z) (q : ∀ y, (y.length : Int) ≤ k → (k ≤ z.length → (y.length : Int) = k) → y.length ≤ z.length → LP P y → Q (.str y) H) : RSl (.str z) none (some k) H Q := by
  obtain ⟨n, rfl⟩ := Int.eq_ofNat_of_zero_le k0
  have e := congrArg List.length (cut_take z n)
  rw [List.length_take, len_tl, len_tl] at e
  exact RSl.str (small_ok hl) (q _ (by show ((cutS z none (some (n : Int))).length : Int) ≤ n; omega) (fun h => by show ((cutS z none (some (n : Int))).length : Int) = n; omega) (len_cut ..) (s.cut _ _))
theorem rsl_mid {z : Str} {a b : Int} {H : Hp} {Q : VK} (hl : z.length ≤ 1000000) (a0 : 0 ≤ a) (ab : a ≤ b) (s : LP P z) (q : ∀ y, (y.length : Int) ≤ b - a → LP P y → Q (.str y) H) : RSl (.str z) (some a) (some b) H Q := by
  obtain ⟨m, rfl⟩ := Int.eq_ofNat_of_zero_le a0
  obtain ⟨n, rfl⟩ := Int.eq_ofNat_of_zero_le (Int.le_trans a0 ab)
  refine RSl.str (small_ok hl) (q _ ?_ (s.cut _ _))
  show (((z.cps.toList.drop (HT.sIx z.length 0 (some (m : Int)))).take (HT.sIx z.length z.length (some (n : Int)) - HT.sIx z.length 0 (some (m : Int)))).toArray.size : Int) ≤ (n : Int) - m
  rw [List.size_toArray, List.length_take, sIx_le', sIx_le']
  omega
theorem cut_mid_len {z : Str} {a b : Int} (a0 : 0 ≤ a) (ab : a ≤ b) : ((cutS z (some a) (some b)).length : Int) ≤ b - a := by
  obtain ⟨m, rfl⟩ := Int.eq_ofNat_of_zero_le a0
  obtain ⟨n, rfl⟩ := Int.eq_ofNat_of_zero_le (Int.le_trans a0 ab)
  show (((z.cps.toList.drop (HT.sIx z.length 0 (some (m : Int)))).take (HT.sIx z.length z.length (some (n : Int)) - HT.sIx z.length 0 (some (m : Int)))).toArray.size : Int) ≤ (n : Int) - m
  rw [List.size_toArray, List.length_take, sIx_le', sIx_le']
  omega
theorem cut_to_len {z : Str} {k : Int} (k0 : 0 ≤ k) : ((cutS z none (some k)).length : Int) ≤ k ∧ (k ≤ z.length → ((cutS z none (some k)).length : Int) = k) := by
  obtain ⟨n, rfl⟩ := Int.eq_ofNat_of_zero_le k0
  have e := congrArg List.length (cut_take z n)
  rw [List.length_take, len_tl, len_tl] at e
  omega
/-- one more name -/
theorem names_snoc {P : Str → Prop} {ys : List Str} {y : Str} {j : Nat} (h : ∀ y ∈ ys, P y) (hl : ys.length = j) (hy : P y) : (∀ z ∈ ys ++ [y], P z) ∧ (ys ++ [y]).length = j + 1 := by
  refine ⟨fun z hz => ?_, by rw [List.length_append, hl]; rfl⟩
  rcases List.mem_append.mp hz with q | q
  · exact h z q
  · rw [List.mem_singleton.mp q]
    exact hy
theorem radd_p {a b : Str} {H : Hp} {Q : VK} (hl : a.length + b.length ≤ 1000000) (s1 : LP P a) (s2 : LP P b) (k : ∀ y, y.length = a.length + b.length → LP P y → Q (.str y) H) : RAdd (.str a) (.str b) H Q := RAdd.str (small_ok hl) (k _ (len_app ..) (s1.app s2))
end
/-! ### split, list, tuple, pop -/
inductive RSplit : V → List V → Hp → VK → Prop
  | mk {z y : Str} {H : Hp} {Q : VK} : (y.length == 0) = false → z.length + 2 ≤ 1000000 → AlD (.lst ((Txt.split z y).map V.str)) H Q → RSplit (.str z) [.str y] H Q
theorem mt_splitU {X : Cx} : MtR X "str.split" RSplit := by
  intro pins s σ H x xs v us Q I rx rs h
  cases h with
  | mk h1 h2 q => exact mt_split pins s σ H _ _ v us Q I rx rs ⟨_, _, rfl, rfl, h1, small_ok h2, q⟩
inductive RListO : List V → Hp → VK → Prop
  | l {p : Addr} {xs : List V} {H : Hp} {Q : VK} : H p = some (.lst xs) → AlD (.lst xs) H Q → RListO [.ref p] H Q
  | t {p : Addr} {xs : List V} {H : Hp} {Q : VK} : H p = some (.tup xs) → AlD (.lst xs) H Q → RListO [.ref p] H Q
theorem call_listU {X : Cx} : CallR X (.type "list") RListO := by
  intro pins s σ H xs us Q I r h
  cases h with
  | l e q => exact call_list_of pins s σ H _ us Q I r ⟨_, _, rfl, .inl (SqL.of e), q⟩
  | t e q => exact call_list_of pins s σ H _ us Q I r ⟨_, _, rfl, .inr (SqT.of e), q⟩
inductive RTupO : List V → Hp → VK → Prop
  | l {p : Addr} {xs : List V} {H : Hp} {Q : VK} : H p = some (.lst xs) → AlD (.tup xs) H Q → RTupO [.ref p] H Q
/-! ### methods of lists that change -/
section
variable {K : PySem.W.Frag} {σ : L2.St} {H D : Hp} {R : Cells} {Q : VK} {p : Addr} {xs : List V} {v : V} {to : TE} {t : TA} {r : V → List V → Hp → VK → Prop} {T : String}
theorem se_bm (h : to σ H fun x H1 => tyV K T x H1 ∧ t σ H1 fun xs H2 => r x xs H2 Q) : tBM K T r to t σ H Q := h
theorem se_bm0 (h : to σ H fun x H1 => tyV K T x H1 ∧ r x [] H1 Q) : tBM0 K T r to σ H Q := h
theorem bm_ty {A : Prop} (e : H p = some (.lst xs)) (h : A) : tyV K "list" (.ref p) H ∧ A := ⟨.inl ⟨rfl, xs, SqL.of e⟩, h⟩
theorem app_now (hi : HI H ((p, .lst xs) :: R) D) (hl : xs.length < 1000000) (k : ∀ H', HI H' ((p, .lst (xs ++ [v])) :: R) D → Q .non H') : rAppend (.ref p) [v] H Q :=
  ⟨p, xs, v, rfl, rfl, hi.get (List.mem_cons_self ..), by rw [sizeLine_eq]; omega, k _ hi.set⟩
end
theorem call_tupU {X : Cx} : CallR X (.type "tuple") RTupO := by
  intro pins s σ H xs us Q I r h
  cases h with
  | l e q => exact call_tuple_of pins s σ H _ us Q I r ⟨_, _, rfl, .inl ⟨SqL.of e, q⟩⟩
theorem pop_now {H D : Hp} {R : Cells} {Q : VK} {p : Addr} {xs : List V} {i : Int} (hi : HI H ((p, .lst xs) :: R) D) (h0 : 0 ≤ i) (h1 : i < xs.length) (h2 : xs.length ≤ 1000000) (k : ∀ y H', xs[i.toNat]? = some y → HI H' ((p, .lst (xs.eraseIdx i.toNat)) :: R) D → Q y H') : rPopAt (.ref p) [.int i] H Q := by
  have e1 : ixN xs.length i = some i.toNat := by
    unfold ixN
    rw [if_pos h0, if_pos h1]
  have hn : i.toNat < xs.length := by omega
  exact ⟨p, xs, i, i.toNat, xs[i.toNat], rfl, rfl, hi.get (List.mem_cons_self ..), by omega, by omega, (ixN_seq e1).1, List.getElem?_eq_getElem hn, k _ _ (List.getElem?_eq_getElem hn) hi.set⟩
/-! ### while -/
def NW (I : Nat → L2.St → Cells → Hp → Prop) (m : Nat) : L2.St → Hp → Prop := fun σ' H' => ∃ m' R' D', m' < m ∧ HI H' R' D' ∧ I m' σ' R' D'
theorem while_hi {c : TT} {tb : TS} {Ds : Ends} {σ : L2.St} {H D0 : Hp} {R0 : Cells} {m : Nat} (I : Nat → L2.St → Cells → Hp → Prop) (hi : HI H R0 D0) (h0 : I m σ R0 D0)
    (hs : ∀ m σ R Dd H, HI H R Dd → I m σ R Dd → c σ H fun b H1 => if b = true then (∃ N : L2.St → Hp → Prop, (∀ σ' H', N σ' H' → ∃ m', m' < m ∧ ∃ R D, HI H' R D ∧ I m' σ' R D) ∧ tb { Ds with nx := N, ct := N, bk := Ds.nx } σ H1) else Ds.nx σ H1) : tWhile c tb Ds σ H :=
  ⟨fun m σ H => ∃ R D, HI H R D ∧ I m σ R D, ⟨m, R0, D0, hi, h0⟩, fun m σ H ⟨R, D, a, b⟩ => hs m σ R D H a b⟩
theorem wh_go {tb : TS} {Ds : Ends} {σ : L2.St} {H1 : Hp} {m : Nat} {I : Nat → L2.St → Cells → Hp → Prop} (h : tb { Ds with nx := NW I m, ct := NW I m, bk := Ds.nx } σ H1) :
    ∃ N : L2.St → Hp → Prop, (∀ σ' H', N σ' H' → ∃ m', m' < m ∧ ∃ R D, HI H' R D ∧ I m' σ' R D) ∧ tb { Ds with nx := N, ct := N, bk := Ds.nx } σ H1 :=
  ⟨NW I m, fun σ' H' ⟨m', R', D', a, b, c⟩ => ⟨m', a, R', D', b, c⟩, h⟩
/-! ### lists of ints -/
theorem ints_rep {H : Hp} : ∀ ks : List Int, RepL H (ks.map V.int) (ks.map PyData.int)
  | [] => .nil
  | k :: ks => .cons (.int k) (ints_rep ks)
theorem ints_dict : ∀ ks : List Int, PyData.hasDictAll (ks.map PyData.int) = false
  | [] => by simp [PyData.hasDictAll]
  | k :: ks => by
    have := ints_dict ks
    simp [PyData.hasDictAll, PyData.hasDict, this]
theorem ints_lay : ∀ ks : List Int, PyData.canLayAll0 (ks.map PyData.int) = true
  | [] => by simp [PyData.canLayAll0]
  | k :: ks => by
    have := ints_lay ks
    simp [PyData.canLayAll0, PyData.canLay0, this]
theorem ints_depth : ∀ ks : List Int, PyData.depthAll (ks.map PyData.int) = 0
  | [] => by simp [PyData.depthAll]
  | k :: ks => by
    have := ints_depth ks
    simp [PyData.depthAll, PyData.depth, this]
theorem rne_ints_nil {H : Hp} {Q : VK} {p q : Addr} {ks : List Int} (e1 : H p = some (.lst (ks.map V.int))) (e2 : H q = some (.lst [])) (g : Q (.bl (!ks.isEmpty)) H) : REq true (.ref p) (.ref q) H Q := by
  refine rne_dat (d := .list (ks.map PyData.int)) (e := .list []) (.lst e1 (ints_rep ks)) (.lst e2 .nil) (by simp [PyData.hasDict, ints_dict]) (by simp [PyData.hasDict, PyData.hasDictAll]) (by simp [SeqAt.shaped, PyData.canLay0, ints_lay, PyData.depth, ints_depth]) (by decide +kernel) ?_
  have e : PyData.eqv (.list (ks.map PyData.int)) (.list []) = ks.isEmpty := by cases ks <;> simp [PyData.eqv, PyData.eqvAll]
  rw [e]
  exact g
inductive RListM : List V → Hp → VK → Prop
  | l {p : Addr} {xs : List V} {H : Hp} {Q : VK} : H p = some (.lst xs) → AlM (.lst xs) H Q → RListM [.ref p] H Q
theorem call_listUM {X : Cx} : CallR X (.type "list") RListM := by
  intro pins s σ H xs us Q I r h
  cases h with
  | l e q => exact call_list_of pins s σ H _ us Q I r ⟨_, _, rfl, .inl (SqL.of e), q⟩
end Wk

set_option maxRecDepth 100000
set_option maxHeartbeats 4000000
/-! Bounds of what repr shows. -/
namespace Wk
open PySem PySem.Spec PyProof.Rows L2
theorem join_len (sep : Str) : ∀ ys : List Str, (Str.join sep ys).length ≤ (ys.map (·.length)).sum + ys.length * sep.length
  | [] => Nat.zero_le _
  | [y] => by
    show y.length ≤ _
    simp
  | x :: y :: r => by
    have ih := join_len sep (y :: r)
    show (x ++ sep ++ Str.join sep (y :: r)).length ≤ _
    rw [len_app, len_app]
    simp only [List.map_cons, List.sum_cons, List.length_cons, Nat.add_mul, Nat.one_mul] at ih ⊢
    omega
theorem join_sg {sep : Str} (hs : Sg sep) : ∀ ys : List Str, (∀ y ∈ ys, Sg y) → Sg (Str.join sep ys)
  | [], _ => fun c hc => by simp [Str.join, Str.empty] at hc
  | [y], h => h y (List.mem_cons_self ..)
  | x :: y :: r, h => by
    have ih := join_sg hs (y :: r) fun z hz => h z (List.mem_cons_of_mem _ hz)
    show Sg (x ++ sep ++ Str.join sep (y :: r))
    exact ((h x (List.mem_cons_self ..)).app hs).app ih
theorem repr_len {z : Str} (h : Sg z) : (reprText z).length ≤ 10 * z.length + 2 := PySem.StrLaws.reprText_len z fun c hc => by
  have := h c hc
  omega
end Wk

set_option maxRecDepth 100000
set_option maxHeartbeats 4000000
/-! Data that may be shown: how long, how deep. -/
namespace Wk
open PySem PySem.Spec PyProof.Rows L2
structure Sm (d : PyData) (n k : Nat) : Prop where
  s : d.showable = true
  l : d.shown.length ≤ n
  d : d.depth ≤ k
theorem Sm.mono {d : PyData} {n k n' k' : Nat} (h : Sm d n k) (a : n ≤ n') (b : k ≤ k') : Sm d n' k' := ⟨h.s, Nat.le_trans h.l a, Nat.le_trans h.d b⟩
theorem Sm.non : Sm .none 4 0 := ⟨rfl, by decide +kernel, Nat.le_refl _⟩
theorem Sm.bl (b : Bool) : Sm (.bool b) 5 0 := by cases b <;> exact ⟨rfl, by decide +kernel, Nat.le_refl _⟩
theorem Sm.int {i : Int} (h : i.natAbs < 10 ^ 30) : Sm (.int i) 31 0 := ⟨decide_eq_true (log2_small (by omega)), (tst h).1, Nat.le_refl _⟩
theorem Sm.str {z : Str} (h : Sg z) : Sm (.str z) (10 * z.length + 2) 0 := ⟨by simp [PyData.showable], repr_len h, by simp [PyData.depth]⟩
theorem sm_all {n k : Nat} : ∀ {ds : List PyData}, (∀ d ∈ ds, Sm d n k) → PyData.showableAll ds = true ∧ (((PyData.shownAll ds).map (·.length)).sum ≤ n * ds.length ∧ (PyData.shownAll ds).length = ds.length) ∧ PyData.depthAll ds ≤ k
  | [], _ => ⟨rfl, ⟨Nat.zero_le _, rfl⟩, Nat.zero_le _⟩
  | d :: ds, h => by
    obtain ⟨a, ⟨b, c⟩, e⟩ := sm_all (ds := ds) fun x hx => h x (List.mem_cons_of_mem _ hx)
    obtain ⟨a1, b1, e1⟩ := h d (List.mem_cons_self ..)
    refine ⟨?_, ⟨?_, ?_⟩, ?_⟩
    · simp only [PyData.showableAll, a1, a, Bool.and_self]
    · simp only [PyData.shownAll, List.map_cons, List.sum_cons, List.length_cons, Nat.mul_succ]
      omega
    · simp only [PyData.shownAll, List.length_cons, c]
    · simp only [PyData.depthAll]
      omega
theorem Sm.list {n k : Nat} {ds : List PyData} (h : ∀ d ∈ ds, Sm d n k) : Sm (.list ds) (n * ds.length + 2 * ds.length + 3) (k + 1) := by
  obtain ⟨a, ⟨b, c⟩, e⟩ := sm_all h
  refine ⟨by simpa only [PyData.showable] using a, ?_, by simp only [PyData.depth]; omega⟩
  have jl := PySem.listText_len_le (PyData.shownAll ds)
  rw [c] at jl
  have e4 : (PyData.list ds).shown = PySem.listText (PyData.shownAll ds) := by simp only [PyData.shown]
  rw [e4]
  omega
theorem Sm.tuple {n k : Nat} {ds : List PyData} (h : ∀ d ∈ ds, Sm d n k) : Sm (.tuple ds) (n * ds.length + 2 * ds.length + 3) (k + 1) := by
  obtain ⟨a, ⟨b, c⟩, e⟩ := sm_all h
  refine ⟨by simpa only [PyData.showable] using a, ?_, by simp only [PyData.depth]; omega⟩
  have jl := join_len (Str.ofString ", ") (PyData.shownAll ds)
  have e1 : (Str.ofString ", ").length = 2 := rfl
  have e2 : (Str.ofString "(").length = 1 := rfl
  have e3 : (Str.ofString ")").length = 1 := rfl
  have e4 : (Str.ofString ",)").length = 2 := rfl
  rw [e1, c] at jl
  match ds, jl, b, c with
  | [], jl, b, c => exact Nat.le_trans (show (PyData.shown (.tuple [])).length ≤ 3 by decide +kernel) (by omega)
  | [x], jl, b, c =>
    have b' : x.shown.length ≤ n := by simpa [PyData.shownAll] using b
    show ((Str.ofString "(") ++ x.shown ++ (Str.ofString ",)")).length ≤ _
    rw [len_app, len_app, e2, e4]
    simp only [List.length_cons, List.length_nil]
    omega
  | x :: y :: r, jl, b, c =>
    show ((Str.ofString "(") ++ Str.join (Str.ofString ", ") (PyData.shownAll (x :: y :: r)) ++ (Str.ofString ")")).length ≤ _
    rw [len_app, len_app, e2, e3]
    omega
theorem Sm.d0 : Sm (.dict []) 2 1 := ⟨rfl, by decide +kernel, Nat.le_refl _⟩
theorem line_ok {n : Nat} (h : n ≤ 16777216) : n ≤ sizeLine := by
  rw [sizeLine_eq]
  exact h
theorem repr_sm {H : Hp} {Q : VK} {x : V} {d : PyData} {n k : Nat} (h : Rep H x d) (s : Sm d n k) (hn : n ≤ 16777216) (hk : k ≤ 60) (q : Q (.str d.shown) H) : rRepr [x] H Q := ⟨x, d, rfl, h, s.s, line_ok (Nat.le_trans s.l hn), Nat.le_trans s.d hk, q⟩
end Wk

set_option maxRecDepth 100000
set_option maxHeartbeats 4000000
/-! repr of data in which own exceptions may stand. -/
namespace Wk
open PySem PySem.Spec PyProof.Rows L2
inductive KT : Key → Str → Prop
  | int (i : Int) (h : i.natAbs.log2 < 1920) : KT (.inl i) (toString i)
  | str (x : Str) : KT (.inr x) (reprText x)
mutual
/-- what repr shows of v, and how deep it goes -/
inductive Shw (K : PySem.W.Frag) (H : Hp) : V → Str → Nat → Prop
  | non : Shw K H .non "None" 0
  | bl (b : Bool) : Shw K H (.bl b) (if b then "True" else "False") 0
  | int (i : Int) (h : i.natAbs.log2 < 1920) : Shw K H (.int i) (toString i) 0
  | str (x : Str) : Shw K H (.str x) (reprText x) 0
  | exc {a d C t1 : Addr} {z : Str} (e : H a = some (exq a C (some d) t1)) (e2 : H t1 = some (.tup [.str z])) (q : ExQ K C) : Shw K H (.ref a) (exHd K C ++ "(" ++ reprText z ++ ")") 1
  | lst {a : Addr} {vs : List V} {ts : List Str} {n : Nat} (e : H a = some (.lst vs)) (l : ShwL K H vs ts n) : Shw K H (.ref a) (listText ts) (n + 1)
  | tup {a : Addr} {vs : List V} {ts : List Str} {n : Nat} (e : H a = some (.tup vs)) (l : ShwL K H vs ts n) : Shw K H (.ref a) (tupleText ts) (n + 1)
  | dict {a : Addr} {kvs : List (Key × V)} {ts : List Str} {n : Nat} (e : H a = some (.dK kvs)) (l : ShwK K H kvs ts n) : Shw K H (.ref a) (dictText ts) (n + 1)
inductive ShwL (K : PySem.W.Frag) (H : Hp) : List V → List Str → Nat → Prop
  | nil : ShwL K H [] [] 0
  | cons {v : V} {vs : List V} {t : Str} {ts : List Str} {m n : Nat} (h : Shw K H v t m) (l : ShwL K H vs ts n) : ShwL K H (v :: vs) (t :: ts) (max m n)
inductive ShwK (K : PySem.W.Frag) (H : Hp) : List (Key × V) → List Str → Nat → Prop
  | nil : ShwK K H [] [] 0
  | cons {k : Key} {v : V} {kvs : List (Key × V)} {kt t : Str} {ts : List Str} {m n : Nat} (kk : KT k kt) (h : Shw K H v t m) (l : ShwK K H kvs ts n) : ShwK K H ((k, v) :: kvs) ((kt ++ ": " ++ t) :: ts) (max m n)
end
section
variable {K : PySem.W.Frag} {H H' : Hp}
mutual
theorem Shw.mono (x : Ex H H') : ∀ {v : V} {t : Str} {n : Nat}, Shw K H v t n → Shw K H' v t n
  | _, _, _, .non => .non
  | _, _, _, .bl b => .bl b
  | _, _, _, .int i h => .int i h
  | _, _, _, .str z => .str z
  | _, _, _, .exc e e2 q => .exc (x _ _ e) (x _ _ e2) q
  | _, _, _, .lst e l => .lst (x _ _ e) (ShwL.mono x l)
  | _, _, _, .tup e l => .tup (x _ _ e) (ShwL.mono x l)
  | _, _, _, .dict e l => .dict (x _ _ e) (ShwK.mono x l)
theorem ShwL.mono (x : Ex H H') : ∀ {v : List V} {t : List Str} {n : Nat}, ShwL K H v t n → ShwL K H' v t n
  | _, _, _, .nil => .nil
  | _, _, _, .cons h l => .cons (Shw.mono x h) (ShwL.mono x l)
theorem ShwK.mono (x : Ex H H') : ∀ {v : List (Key × V)} {t : List Str} {n : Nat}, ShwK K H v t n → ShwK K H' v t n
  | _, _, _, .nil => .nil
  | _, _, _, .cons kk h l => .cons kk (Shw.mono x h) (ShwK.mono x l)
end
theorem exq_is {a C t1 : Addr} {d : Option Addr} {o : HO} (h : H a = some o) (e : H a = some (exq a C d t1)) : ∃ φ, o = .ext φ := by
  rw [h] at e
  exact ⟨_, Option.some.inj e⟩
mutual
theorem Shw.det : ∀ {v : V} {t : Str} {n : Nat}, Shw K H v t n → ∀ {t' : Str} {n' : Nat}, Shw K H v t' n' → n = n'
  | _, _, _, .non, _, _, h => by cases h; rfl
  | _, _, _, .bl b, _, _, h => by cases h; rfl
  | _, _, _, .int i _, _, _, h => by cases h; rfl
  | _, _, _, .str z, _, _, h => by cases h; rfl
  | _, _, _, .exc e e2 q, _, _, h => by
    cases h with
    | exc f f2 g => rfl
    | lst f l => obtain ⟨_, z⟩ := exq_is f e; cases z
    | tup f l => obtain ⟨_, z⟩ := exq_is f e; cases z
    | dict f l => obtain ⟨_, z⟩ := exq_is f e; cases z
  | _, _, _, .lst e l, _, _, h => by
    cases h with
    | exc f f2 g => obtain ⟨_, z⟩ := exq_is e f; cases z
    | lst f l2 => rw [e] at f; cases f; rw [ShwL.det l l2]
    | tup f l => rw [e] at f; cases f
    | dict f l => rw [e] at f; cases f
  | _, _, _, .tup e l, _, _, h => by
    cases h with
    | exc f f2 g => obtain ⟨_, z⟩ := exq_is e f; cases z
    | lst f l2 => rw [e] at f; cases f
    | tup f l2 => rw [e] at f; cases f; rw [ShwL.det l l2]
    | dict f l => rw [e] at f; cases f
  | _, _, _, .dict e l, _, _, h => by
    cases h with
    | exc f f2 g => obtain ⟨_, z⟩ := exq_is e f; cases z
    | lst f l2 => rw [e] at f; cases f
    | tup f l2 => rw [e] at f; cases f
    | dict f l2 => rw [e] at f; cases f; rw [ShwK.det l l2]
theorem ShwL.det : ∀ {v : List V} {t : List Str} {n : Nat}, ShwL K H v t n → ∀ {t' : List Str} {n' : Nat}, ShwL K H v t' n' → n = n'
  | _, _, _, .nil, _, _, h => by cases h; rfl
  | _, _, _, .cons h l, _, _, h' => by
    cases h' with
    | cons h2 l2 => rw [Shw.det h h2, ShwL.det l l2]
theorem ShwK.det : ∀ {v : List (Key × V)} {t : List Str} {n : Nat}, ShwK K H v t n → ∀ {t' : List Str} {n' : Nat}, ShwK K H v t' n' → n = n'
  | _, _, _, .nil, _, _, h => by cases h; rfl
  | _, _, _, .cons kk h l, _, _, h' => by
    cases h' with
    | cons kk2 h2 l2 => rw [Shw.det h h2, ShwK.det l l2]
end
def AtMost (K : PySem.W.Frag) (H : Hp) (n : Nat) (as : List Addr) : Prop := ∀ b ∈ as, ∃ t m, Shw K H (.ref b) t m ∧ m ≤ n
theorem AtMost.mono' {n m : Nat} {as : List Addr} (h : AtMost K H n as) (l : n ≤ m) : AtMost K H m as := fun b hb => let ⟨t, k, a, c⟩ := h b hb; ⟨t, k, a, Nat.le_trans c l⟩
theorem AtMost.app {n : Nat} {as bs : List Addr} (h : AtMost K H n as) (g : AtMost K H n bs) : AtMost K H n (as ++ bs) := fun b hb => (List.mem_append.mp hb).elim (h b) (g b)
theorem AtMost.cons {n : Nat} {a : Addr} {as : List Addr} {t : Str} (h : AtMost K H n as) (s : Shw K H (.ref a) t (n + 1)) : AtMost K H (n + 1) (a :: as) := fun b hb => by
  rcases List.mem_cons.mp hb with e | hb
  · subst e
    exact ⟨t, _, s, Nat.le_refl _⟩
  · exact (h.mono' (Nat.le_succ n)) b hb
theorem AtMost.not {n : Nat} {a : Addr} {as : List Addr} {t : Str} (h : AtMost K H n as) (s : Shw K H (.ref a) t (n + 1)) : a ∉ as := fun hm => by
  obtain ⟨t', m, s', l⟩ := h a hm
  have := Shw.det s s'
  omega
end
section
variable {X : Cx} {pins : List (Addr × Obj)} {σ : L2.St} {H : Hp} {s : Shared}
theorem xat_of {e d C t1 : Addr} {z : Str} (I : Inv X pins σ H s) (e1 : H e = some (exq e C (some d) t1)) (e2 : H t1 = some (.tup [.str z])) (q : ExQ X.K C) : ∃ tk, XAt X.K C s.heap e z tk := by
  have g1 := exq_at I.hok e1
  obtain ⟨its, rv, ⟨o, ho, hc, n, hd⟩, _⟩ := I.tuple (SqT.of e2)
  cases rv with
  | @cons _ u _ us r1 r2 =>
    cases r2
    obtain ⟨tk, rfl⟩ := r1
    exact ⟨tk, q, I.kIn, t1, some d, g1, o, n, ho, hc, hd⟩
theorem key_k {as : List Addr} {h0 : Heap} {d : Nat} {k : Key} {u : Value} {kt : Str} (hk : keyIs k u = true) (kk : KT k kt) (hz : kt.length ≤ sizeLine) : ReprK X.prog X.w as h0 d u kt := by
  cases kk with
  | int i h =>
    obtain ⟨t, rfl⟩ := Value.isInt_shape (k := i) (v := u) hk
    exact .of_is (ReprIs.int t h) _ _ _
  | str x =>
    obtain ⟨t, rfl⟩ := Value.isStrOf_shape (x := x) (v := u) hk
    exact .of_is (ReprIs.str x t hz) _ _ _
theorem entries_more {prog : Program} {w : World} {h₀ : Heap} {as as' : List Addr} {d d' : Nat} (hsub : ∀ b ∈ as, b ∈ as') (hd : d ≤ d') : ∀ {es : List DictEntry} {ps : List Str}, ReprEntriesK prog w as h₀ d es ps → ReprEntriesK prog w as' h₀ d' es ps
  | _, _, .nil => .nil
  | _, _, .cons h1 h2 l => .cons ((h1.more hsub).level_le hd) ((h2.more hsub).level_le hd) (entries_more hsub hd l)
mutual
theorem Shw.k (I : Inv X pins σ H s) (hs : HasSys X.K) : ∀ {v : V} {t : Str} {n : Nat} {u : Value}, Shw X.K H v t n → RelV v u → t.length ≤ sizeLine → ∃ as, AtMost X.K H n as ∧ ReprK X.prog X.w as s.heap n u t
  | _, _, _, _, .non, r, _ => by
    cases r
    exact ⟨[], (fun _ h => nomatch h), .of_is ReprIs.none _ _ _⟩
  | _, _, _, _, .bl b, r, _ => by
    cases r
    exact ⟨[], (fun _ h => nomatch h), .of_is (ReprIs.bool b) _ _ _⟩
  | _, _, _, _, .int i hi, r, _ => by
    obtain ⟨t, rfl⟩ := r
    exact ⟨[], (fun _ h => nomatch h), .of_is (ReprIs.int t hi) _ _ _⟩
  | _, _, _, _, .str z, r, hz => by
    obtain ⟨t, rfl⟩ := r
    exact ⟨[], (fun _ h => nomatch h), .of_is (ReprIs.str z t hz) _ _ _⟩
  | _, _, _, _, .exc e e2 q, r, hz => by
    cases r
    obtain ⟨tk, x⟩ := xat_of I e e2 q
    exact ⟨[], (fun _ h => nomatch h), fun base hb A g E s' Q hg hcl hu hk0 hQ => xat_under (by omega) (x.keeps hk0) (hQ _ _ fun _ _ e => e) hb⟩
  | _, _, _, _, .lst e l, r, hz => by
    cases r
    have sh := Shw.lst e l
    obtain ⟨its, rv, ⟨o, n, ho, hc, _, hd⟩, _⟩ := I.list (SqL.of e)
    obtain ⟨as, hb, hk⟩ := ShwL.k I hs l rv (fun t ht => Nat.le_trans (listText_mem_le ht) hz)
    refine ⟨_ :: as, hb.cons sh, ?_⟩
    cases its with
    | nil =>
      cases rv
      cases l
      have e0 : listText [] = ("[]" : Str) := listText_nil
      rw [e0]
      exact ReprK.listEmpty ho hc hd
    | cons x l' => exact ReprK.list ho hc hd (hb.not sh) (by simpa using hk.length_eq) (fun i y e => hk.item i y (by simpa using e))
  | _, _, _, _, .tup e l, r, hz => by
    cases r
    have sh := Shw.tup e l
    obtain ⟨its, rv, ⟨o, ho, hc, n, hd⟩, _⟩ := I.tuple (SqT.of e)
    obtain ⟨as, hb, hk⟩ := ShwL.k I hs l rv (fun t ht => Nat.le_trans (tupleText_mem_le ht) hz)
    exact ⟨_ :: as, hb.cons sh, ReprK.tuple ho hc hd (hb.not sh) (by simpa using hk)⟩
  | _, _, _, _, .dict e l, r, hz => by
    cases r
    have sh := Shw.dict e l
    obtain ⟨_, hsys, vs, rv, o, es, ep, ho, hx, hd, _, hp, _⟩ := I.hok _ _ e
    obtain ⟨as, hb, hk⟩ := ShwK.k I hs l rv hp (fun t ht => Nat.le_trans (dictText_mem_le ht) hz)
    exact ⟨_ :: as, hb.cons sh, ReprK.dict ho hx.1 hd hsys (hb.not sh) hk⟩
theorem ShwL.k (I : Inv X pins σ H s) (hs : HasSys X.K) : ∀ {vs : List V} {ts : List Str} {n : Nat} {us : List Value}, ShwL X.K H vs ts n → Vals vs us → (∀ t ∈ ts, t.length ≤ sizeLine) → ∃ as, AtMost X.K H n as ∧ ReprAllK X.prog X.w as s.heap n us ts
  | _, _, _, _, .nil, r, _ => by
    cases r
    exact ⟨[], (fun _ h => nomatch h), .nil⟩
  | _, _, _, _, .cons h l, r, hz => by
    cases r with
    | cons r1 r2 =>
      obtain ⟨as, h1, k1⟩ := Shw.k I hs h r1 (hz _ (List.mem_cons_self ..))
      obtain ⟨bs, h2, k2⟩ := ShwL.k I hs l r2 fun t ht => hz t (List.mem_cons_of_mem _ ht)
      exact ⟨as ++ bs, (h1.mono' (Nat.le_max_left ..)).app (h2.mono' (Nat.le_max_right ..)), .cons ((k1.more fun b hb => List.mem_append_left _ hb).level_le (Nat.le_max_left _ _)) (k2.more_le (fun b hb => List.mem_append_right _ hb) (Nat.le_max_right _ _))⟩
theorem ShwK.k (I : Inv X pins σ H s) (hs : HasSys X.K) : ∀ {kvs : List (Key × V)} {ts : List Str} {n : Nat} {us : List (Key × Value)} {es : List DictEntry}, ShwK X.K H kvs ts n → KV kvs us → Pairs (mixKind X.prog X.w) es us → (∀ t ∈ ts, t.length ≤ sizeLine) →
    ∃ as, AtMost X.K H n as ∧ ReprEntriesK X.prog X.w as s.heap n es ts
  | _, _, _, _, _, .nil, r, p, _ => by
    cases r
    cases p
    exact ⟨[], (fun _ h => nomatch h), .nil⟩
  | _, _, _, _, _, .cons (t := t) (kt := kt) kk h l, r, p, hz => by
    cases r with
    | cons r1 r2 =>
      cases p with
      | cons p1 p2 p3 =>
        obtain ⟨e1, e2⟩ := r1
        have hl := hz _ (List.mem_cons_self ..)
        rw [len_app, len_app] at hl
        obtain ⟨bs, h2, k2⟩ := ShwK.k I hs l r2 p3 fun t ht => hz t (List.mem_cons_of_mem _ ht)
        rw [← e1] at p1
        rw [← p2] at e2
        obtain ⟨as, h1, k1⟩ := Shw.k I hs h e2 (by omega)
        refine ⟨as ++ bs, (h1.mono' (Nat.le_max_left ..)).app (h2.mono' (Nat.le_max_right ..)), .cons (key_k (show keyIs _ _ = true from p1) kk (by omega)) ((k1.more fun b hb => List.mem_append_left _ hb).level_le (Nat.le_max_left _ _)) ?_⟩
        exact entries_more (fun b hb => List.mem_append_right _ hb) (Nat.le_max_right _ _) k2
end
end
/-- repr(x), exceptions within -/
def rShw (K : PySem.W.Frag) : List V → Hp → VK → Prop := fun xs H Q => ∃ x t n, xs = [x] ∧ Shw K H x t n ∧ t.length ≤ sizeLine ∧ n ≤ 60 ∧ Q (.str t) H
theorem call_shw {X : Cx} {k : Nat} (hgu : X.A.guards = some []) (hr : Room k X.A) (hs : HasSys X.K) : CallR X (.builtin "repr") (rShw X.K) := by
  intro pins s σ H xs us Q I r h
  obtain ⟨x, t, n, rfl, hx, h2, h3, q⟩ := h
  obtain ⟨u, rfl, ru⟩ := vals1 r
  have hu := hr.units
  have fin : ∀ h' t' tk, (∀ b o, s.heap.get? b = some o → h'.get? b = some o) → EP X pins σ Q (.str t t') { s with heap := h', toks := tk } := fun h' t' tk k => ⟨.str t, H, I.kept k, ⟨_, rfl⟩, q⟩
  cases hx with
  | non => cases ru; exact P.repr_of_none (fin s.heap _ _ fun _ _ e => e)
  | bl b => cases ru; exact P.repr_of_bool (fin s.heap _ _ fun _ _ e => e)
  | int i hi =>
    obtain ⟨t', rfl⟩ := ru
    exact P.repr_of_int hi (fin s.heap _ _ fun _ _ e => e)
  | str z =>
    obtain ⟨t', rfl⟩ := ru
    exact P.repr_of_str (fin s.heap _ _ fun _ _ e => e) h2
  | exc e e2 qx =>
    cases ru
    obtain ⟨tk, x⟩ := xat_of I e e2 qx
    exact xat_repr (by omega) x (fin s.heap _ _ fun _ _ e => e) h2
  | lst e l =>
    cases ru
    have sh := Shw.lst e l
    obtain ⟨its, rv, ⟨o, n, ho, hc, _, hd⟩, _⟩ := I.list (SqL.of e)
    obtain ⟨as, hb, hk⟩ := ShwL.k I hs l rv (fun t ht => Nat.le_trans (listText_mem_le ht) h2)
    refine call_repr_slot (by omega) ⟨o, ho, hc⟩ PySem.F.slot_list_repr.toG ?_
    cases its with
    | nil =>
      cases rv
      cases l
      have e0 : listText [] = ("[]" : Str) := listText_nil
      rw [e0] at fin
      exact call_list_repr_empty ⟨o, ho, hc⟩ ho hd ⟨_, _, rfl, fin s.heap _ _ fun _ _ e => e⟩
    | cons x l' => exact call_list_reprK ho hc hd (hb.not sh) (by simpa using hk.length_eq) (fun i y e => hk.item i y (by simpa using e)) hgu (fun b _ => Clear.nil b) (by show X.A.units + 1 + _ < cLine; omega) (fun _ _ e => e) (fun h' u tk hk' => ⟨_, _, rfl, fin h' u tk hk'⟩) h2
  | tup e l =>
    cases ru
    have sh := Shw.tup e l
    obtain ⟨its, rv, ⟨o, ho, hc, n, hd⟩, _⟩ := I.tuple (SqT.of e)
    obtain ⟨as, hb, hk⟩ := ShwL.k I hs l rv (fun t ht => Nat.le_trans (tupleText_mem_le ht) h2)
    refine call_repr_slot (by omega) ⟨o, ho, hc⟩ PySem.F.slot_tuple_repr ?_
    exact call_tuple_reprK ho hc hd (hb.not sh) (by simpa using hk) hgu (fun b _ => Clear.nil b) (by show X.A.units + 1 + _ < cLine; omega) (fun _ _ e => e) (fun h' u tk hk' => ⟨_, _, rfl, fin h' u tk hk'⟩) h2
  | dict e l =>
    cases ru
    have sh := Shw.dict e l
    obtain ⟨_, hsys, vs, rv, o, es, ep, ho, hx, hd, _, hp, _⟩ := I.hok _ _ e
    obtain ⟨as, hb, hk⟩ := ShwK.k I hs l rv hp (fun t ht => Nat.le_trans (dictText_mem_le ht) h2)
    refine call_repr_slot (by omega) ⟨o, ho, hx.1⟩ PySem.F.slot_dict_repr ?_
    exact call_dict_reprK ho hx.1 hd hsys (hb.not sh) hk hgu (fun b _ => Clear.nil b) (by show X.A.units + 1 + _ < cLine; omega) (fun _ _ e => e) (fun h' u tk hk' => ⟨_, _, rfl, fin h' u tk hk'⟩) h2
/-- either reading of repr -/
inductive RShw (K : PySem.W.Frag) : List V → Hp → VK → Prop
  | s {x : V} {t : Str} {n : Nat} {H : Hp} {Q : VK} : Shw K H x t n → t.length ≤ 10000000 → n ≤ 60 → Q (.str t) H → RShw K [x] H Q
  | b {xs : List V} {H : Hp} {Q : VK} : rRepr xs H Q → RShw K xs H Q
theorem call_reprS {X : Cx} {k : Nat} (hgu : X.A.guards = some []) (hr : Room k X.A) (hs : HasSys X.K) : CallR X (.builtin "repr") (RShw X.K) := by
  intro pins s σ H xs us Q I r h
  cases h with
  | s h1 h2 h3 q => exact call_shw hgu hr hs pins s σ H _ us Q I r ⟨_, _, _, rfl, h1, line_ok (Nat.le_trans h2 (by decide)), h3, q⟩
  | b q => exact call_repr hgu hr hs pins s σ H _ us Q I r q
end Wk

set_option maxRecDepth 100000
set_option maxHeartbeats 4000000
/-! Walks over pairs (zip, enumerate), over tuples; more steps. -/
namespace Wk
open PySem PySem.Spec PyProof.Rows L2
section
variable {K : PySem.W.Frag} {σ : L2.St} {H : Hp} {ta tl : TA} {te : TE} {R : It → Hp → Prop} {a b : Addr} {xs ys : List V}
theorem it_zip (h : ta σ H fun vs H1 => ∃ a b xs ys, vs = [.ref a, .ref b] ∧ SqL K H1 a xs ∧ SqL K H1 b ys ∧ R (Itz K a b) H1) : iZip K ta σ H R := h
theorem zip_mk {P : Addr → Addr → Prop} (h1 : H a = some (.lst xs)) (h2 : H b = some (.lst ys)) (q : P a b) : ∃ a' b' xs ys, [V.ref a, V.ref b] = [.ref a', .ref b'] ∧ SqL K H a' xs ∧ SqL K H b' ys ∧ P a' b' := ⟨a, b, xs, ys, rfl, SqL.of h1, SqL.of h2, q⟩
theorem it_enum (h : ta σ H fun vs H1 => ∃ a xs, vs = [.ref a] ∧ SqL K H1 a xs ∧ R (Ite K a) H1) : iEnum K ta σ H R := h
theorem enum_mk {P : Addr → Prop} (h1 : H a = some (.lst xs)) (q : P a) : ∃ a' xs, [V.ref a] = [.ref a'] ∧ SqL K H a' xs ∧ P a' := ⟨a, xs, rfl, SqL.of h1, q⟩
theorem rne_same {z : Str} {Q : VK} (q : Q (.bl false) H) : REq true (.str z) (.str z) H Q := rne_str (by rw [decide_eq_true rfl]; exact q)
theorem req_same {z : Str} {Q : VK} (q : Q (.bl true) H) : REq false (.str z) (.str z) H Q := req_str (by rw [decide_eq_true rfl]; exact q)
theorem rne_bl {a b : Bool} {Q : VK} (q : Q (.bl (!decide (a = b))) H) : REq true (.bl a) (.bl b) H Q := .scal rfl (by
  have e : decide (V.bl a = V.bl b) = decide (a = b) := by simp
  rw [← e] at q
  exact q)
theorem req_bl {a b : Bool} {Q : VK} (q : Q (.bl (decide (a = b))) H) : REq false (.bl a) (.bl b) H Q := .scal rfl (by
  have e : decide (V.bl a = V.bl b) = decide (a = b) := by simp
  rw [← e] at q
  exact q)
theorem rne_bsame {a : Bool} {Q : VK} (q : Q (.bl false) H) : REq true (.bl a) (.bl a) H Q := rne_bl (by rw [decide_eq_true rfl]; exact q)
theorem it_tup (h : te σ H fun x H1 => ∃ a, x = .ref a ∧ (∃ xs, SqT K H1 a xs) ∧ R (Itt K a) H1) : iTup K te σ H R := h
theorem tupI_mk {P : Addr → Prop} (h : H a = some (.tup xs)) (q : P a) : ∃ b, V.ref a = .ref b ∧ (∃ xs, SqT K H b xs) ∧ P b := ⟨a, rfl, ⟨xs, SqT.of h⟩, q⟩
def tagV : V → Nat
  | .non => 0
  | .bl false => 1
  | .bl true => 2
  | .int _ => 3
  | .str _ => 4
  | .byt _ => 5
  | .flt _ => 6
  | .ref _ => 7
  | .ty _ => 8
theorem if_tagF {x y : V} {A B : Prop} (e : (tagV x == tagV y) = false) (h : B) : if decide (x = y) = true then A else B := by
  rw [if_neg (by
    intro q
    rw [of_decide_eq_true q] at e
    simp at e)]
  exact h
theorem if_tagN {x y : V} {A B : Prop} (e : (tagV x == tagV y) = false) (h : A) : if (!decide (x = y)) = true then A else B := by
  have : decide (x = y) = false := decide_eq_false fun q => by
    rw [q] at e
    simp at e
  rw [this]
  exact h
theorem if_kT {k : Knd} {n : String} {A B : Prop} (e : k.is n = true) (h : A) : if k.is n = true then A else B := by rw [if_pos e]; exact h
theorem if_kF {k : Knd} {n : String} {A B : Prop} (e : k.is n = false) (h : B) : if k.is n = true then A else B := by rw [if_neg (by rw [e]; decide)]; exact h
theorem if_nkT {k : Knd} {n : String} {A B : Prop} (e : k.is n = true) (h : B) : if (!k.is n) = true then A else B := by rw [e]; exact h
theorem if_nkF {k : Knd} {n : String} {A B : Prop} (e : k.is n = false) (h : A) : if (!k.is n) = true then A else B := by rw [e]; exact h
theorem if_notT {A B : Prop} (h : B) : if (!true) = true then A else B := h
theorem if_notF {A B : Prop} (h : A) : if (!false) = true then A else B := h
end
section
variable {J : It} {n : Nat} {G : Hp → Prop} {Y : Nat → Hp → V → Hp → Prop} {g : TG} {tb : TS} {D : Ends} {σ : L2.St} {H D0 : Hp} {R0 : Cells} {tt : TT} {te : TE} {vs : List Nat} {Q : VK} {K : PySem.W.Frag} {a b : Addr} {xs ys : List V}
theorem for_zip (I : Nat → L2.St → Cells → Hp → Prop) (hn : n = min xs.length ys.length) (hi : HI H R0 D0) (h0 : I 0 σ R0 D0) (hl : ∀ i σ R Dd, I i σ R Dd → Dd a = some (.lst xs) ∧ Dd b = some (.lst ys))
    (hs : ∀ (i : Nat) x y T σ R Dd Dd' H, xs[i]? = some x → ys[i]? = some y → HI H R Dd' → Ex Dd Dd' → Dd' T = some (.tup [x, y]) → I i σ R Dd → g (.ref T) σ H fun σ2 H2 => tb { D with nx := NX I (i + 1), ct := NX I (i + 1), bk := D.nx } σ2 H2)
    (hd : ∀ σ R Dd H, HI H R Dd → I n σ R Dd → D.nx σ H) : ForK (Itz K a b) g tb D σ H :=
  for_hi (walk_zip hn) I hi h0 (fun i σ R Dd H _ q p => ⟨SqL.of (q.dat (hl i σ R Dd p).1), SqL.of (q.dat (hl i σ R Dd p).2)⟩) (fun i v σ R Dd H H' hn1 hi1 b y => by
    obtain ⟨T, x, z, rfl, hT, rfl, e1, e2⟩ := y
    exact hs i x z T σ R Dd _ _ e1 e2 (hi1.newD hT) (Ex.new (hi1.free hT)) upd_same b) hd
theorem for_enum (I : Nat → L2.St → Cells → Hp → Prop) (hi : HI H R0 D0) (h0 : I 0 σ R0 D0) (hl : ∀ i σ R Dd, I i σ R Dd → Dd a = some (.lst xs))
    (hs : ∀ (i : Nat) x T σ R Dd Dd' H, xs[i]? = some x → HI H R Dd' → Ex Dd Dd' → Dd' T = some (.tup [.int i, x]) → I i σ R Dd → g (.ref T) σ H fun σ2 H2 => tb { D with nx := NX I (i + 1), ct := NX I (i + 1), bk := D.nx } σ2 H2)
    (hd : ∀ σ R Dd H, HI H R Dd → I xs.length σ R Dd → D.nx σ H) : ForK (Ite K a) g tb D σ H :=
  for_hi walk_enum I hi h0 (fun i σ R Dd H _ q p => SqL.of (q.dat (hl i σ R Dd p))) (fun i v σ R Dd H H' hn1 hi1 b y => by
    obtain ⟨T, x, z, rfl, hT, rfl, e1, e2⟩ := y
    cases e1
    exact hs i z T σ R Dd _ _ e2 (hi1.newD hT) (Ex.new (hi1.free hT)) upd_same b) hd
theorem for_tup (I : Nat → L2.St → Cells → Hp → Prop) (hi : HI H R0 D0) (h0 : I 0 σ R0 D0) (hl : ∀ i σ R Dd, I i σ R Dd → Dd a = some (.tup xs))
    (hs : ∀ (i : Nat) x σ R Dd H, xs[i]? = some x → HI H R Dd → I i σ R Dd → g x σ H fun σ2 H2 => tb { D with nx := NX I (i + 1), ct := NX I (i + 1), bk := D.nx } σ2 H2) (hd : ∀ σ R Dd H, HI H R Dd → I xs.length σ R Dd → D.nx σ H) : ForK (Itt K a) g tb D σ H :=
  for_hi walk_tup I hi h0 (fun i σ R Dd H _ q p => SqT.of (q.dat (hl i σ R Dd p))) (fun i x σ R Dd H H' hn a b y => by
    obtain ⟨rfl, y⟩ := y
    exact hs i x σ R Dd H' y a b) hd
theorem lc_zip (I : Nat → List V → Cells → Hp → Prop) (hn : n = min xs.length ys.length) (hi : HI H R0 D0) (h0 : I 0 [] R0 D0) (hl : ∀ i acc R Dd, I i acc R Dd → Dd a = some (.lst xs) ∧ Dd b = some (.lst ys))
    (hs : ∀ L i acc x y T R Dd Dd' H, xs[i]? = some x → ys[i]? = some y → HI H ((L, .lst acc) :: R) Dd' → Ex Dd Dd' → Dd' T = some (.tup [x, y]) → I i acc R Dd → acc.length ≤ i → g (.ref T) (wipe σ vs) H fun σ2 H2 => wipe σ2 vs = wipe σ vs ∧ tt σ2 H2 fun b H3 => if b = true then te σ2 H3 (LE L I (i + 1)) else PW' L I (i + 1) H3)
    (hd : ∀ L acc R Dd H, HI H ((L, .lst acc) :: R) Dd → I n acc R Dd → acc.length ≤ n → Q (.ref L) H) : LcK (Itz K a b) g tt te vs σ H Q :=
  lc_hi (walk_zip hn) I hi h0 (fun i acc R Dd H _ q p => ⟨SqL.of (q.dat (hl i acc R Dd p).1), SqL.of (q.dat (hl i acc R Dd p).2)⟩) (fun L i acc v R Dd H H' hn1 hi1 b c y => by
    obtain ⟨T, x, z, rfl, hT, rfl, e1, e2⟩ := y
    exact hs L i acc x z T R Dd _ _ e1 e2 (hi1.newD hT) (Ex.new (hi1.free hT)) upd_same b c) hd
theorem lc_enum (I : Nat → List V → Cells → Hp → Prop) (hi : HI H R0 D0) (h0 : I 0 [] R0 D0) (hl : ∀ i acc R Dd, I i acc R Dd → Dd a = some (.lst xs))
    (hs : ∀ L i acc x T R Dd Dd' H, xs[i]? = some x → HI H ((L, .lst acc) :: R) Dd' → Ex Dd Dd' → Dd' T = some (.tup [.int (i : Nat), x]) → I i acc R Dd → acc.length ≤ i → g (.ref T) (wipe σ vs) H fun σ2 H2 => wipe σ2 vs = wipe σ vs ∧ tt σ2 H2 fun b H3 => if b = true then te σ2 H3 (LE L I (i + 1)) else PW' L I (i + 1) H3)
    (hd : ∀ L acc R Dd H, HI H ((L, .lst acc) :: R) Dd → I xs.length acc R Dd → acc.length ≤ xs.length → Q (.ref L) H) : LcK (Ite K a) g tt te vs σ H Q :=
  lc_hi walk_enum I hi h0 (fun i acc R Dd H _ q p => SqL.of (q.dat (hl i acc R Dd p))) (fun L i acc v R Dd H H' hn1 hi1 b c y => by
    obtain ⟨T, x, z, rfl, hT, rfl, e1, e2⟩ := y
    cases e1
    exact hs L i acc z T R Dd _ _ e2 (hi1.newD hT) (Ex.new (hi1.free hT)) upd_same b c) hd
theorem lc_tup (I : Nat → List V → Cells → Hp → Prop) (hi : HI H R0 D0) (h0 : I 0 [] R0 D0) (hl : ∀ i acc R Dd, I i acc R Dd → Dd a = some (.tup xs))
    (hs : ∀ L i acc x R Dd H, xs[i]? = some x → HI H ((L, .lst acc) :: R) Dd → I i acc R Dd → acc.length ≤ i → g x (wipe σ vs) H fun σ2 H2 => wipe σ2 vs = wipe σ vs ∧ tt σ2 H2 fun b H3 => if b = true then te σ2 H3 (LE L I (i + 1)) else PW' L I (i + 1) H3)
    (hd : ∀ L acc R Dd H, HI H ((L, .lst acc) :: R) Dd → I xs.length acc R Dd → acc.length ≤ xs.length → Q (.ref L) H) : LcK (Itt K a) g tt te vs σ H Q :=
  lc_hi walk_tup I hi h0 (fun i acc R Dd H _ q p => SqT.of (q.dat (hl i acc R Dd p))) (fun L i acc x R Dd H H' hn a b c y => by
    obtain ⟨rfl, y⟩ := y
    exact hs L i acc x R Dd H' y a b c) hd
end
theorem atI_mapI {α β : Type} {f : α → β} {xs : List α} {i : Int} {x : α} (h0 : 0 ≤ i) (h : xs[i.toNat]? = some x) : atI (xs.map f) i = some (f x) := by
  rw [atI_ofI h0, List.getElem?_map, h]
  rfl
theorem atI_last {α : Type} {xs : List α} {x : α} : atI (xs ++ [x]) (-1) = some x := by
  unfold atI ixN
  rw [if_neg (by decide), if_pos (by rw [List.length_append, List.length_singleton]; omega)]
  have e : ((-1 : Int) + ((xs ++ [x]).length : Int)).toNat = xs.length := by rw [List.length_append, List.length_singleton]; omega
  rw [Option.bind_some, e]
  simp
theorem atI_lastM {α β : Type} {f : α → β} {xs : List α} {x : α} : atI ((xs ++ [x]).map f) (-1) = some (f x) := by
  rw [List.map_append]
  exact atI_last
theorem get_snoc {α : Type} {xs : List α} {y : α} {i : Nat} {x : α} (h : xs[i]? = some x) : (xs ++ [y])[i]? = some x := by
  rw [List.getElem?_append_left (List.getElem?_eq_some_iff.mp h).1]
  exact h
theorem HI.sublist {H D : Hp} {R R' : Cells} (h : HI H R D) (s : R'.Sublist R) : HI H R' D := ⟨(s.map _).nodup h.nd, fun p hp => h.cell p (s.subset hp), h.sub⟩
theorem HI.fr1 {H D : Hp} {R : Cells} {a : Addr} {o : HO} (h : HI H ((a, o) :: R) D) : ∃ D', HI H R D' ∧ Ex D D' ∧ D' a = some o := ⟨_, h.freeze, h.freezeX, upd_same⟩
theorem HI.fr2 {H D : Hp} {R : Cells} {a b : Addr} {o u : HO} (h : HI H ((a, o) :: (b, u) :: R) D) : ∃ D', HI H R D' ∧ Ex D D' ∧ D' a = some o ∧ D' b = some u := ⟨_, h.freeze.freeze, h.freezeX.trans h.freeze.freezeX, h.freeze.freezeX _ _ upd_same, upd_same⟩
end Wk

set_option maxRecDepth 100000
set_option maxHeartbeats 4000000
/-! Things that may be lists that change (cells). -/
namespace Wk
open PySem PySem.Spec PyProof.Rows L2
/-- a list's cell, a dict's cell -/
def LD (o : HO) : Prop := (∃ xs, o = .lst xs) ∨ ∃ kvs, o = .dK kvs
/-- a drawn thing, or a list or a dict that changes -/
def Mt (K : PySem.W.Frag) (R : Cells) (D : Hp) (v : V) : Prop := Th K D v ∨ ∃ p o, v = .ref p ∧ ((p, o) : Addr × HO) ∈ R ∧ LD o
section
variable {K : PySem.W.Frag} {R R' : Cells} {D D' H : Hp} {v : V} {c : Addr × HO}
theorem Th.m (h : Th K D v) : Mt K R D v := .inl h
theorem Mt.at {p : Addr} {xs : List V} (h : ((p, HO.lst xs) : Addr × HO) ∈ R) : Mt K R D (.ref p) := .inr ⟨p, _, rfl, h, .inl ⟨xs, rfl⟩⟩
theorem Mt.atD {p : Addr} {kvs : List (Key × V)} (h : ((p, HO.dK kvs) : Addr × HO) ∈ R) : Mt K R D (.ref p) := .inr ⟨p, _, rfl, h, .inr ⟨kvs, rfl⟩⟩
theorem Mt.mono (h : Mt K R D v) (x : Ex D D') : Mt K R D' v := by
  rcases h with h | h
  · exact .inl (h.mono x)
  · exact .inr h
theorem Mt.cell (h : Mt K R D v) : Mt K (c :: R) D v := by
  rcases h with h | ⟨p, o, e, m, l⟩
  · exact .inl h
  · exact .inr ⟨p, o, e, List.mem_cons_of_mem _ m, l⟩
theorem Mt.sub (h : Mt K R D v) (s : ∀ q ∈ R, q ∈ R') : Mt K R' D v := by
  rcases h with h | ⟨p, o, e, m, l⟩
  · exact .inl h
  · exact .inr ⟨p, o, e, s _ m, l⟩
theorem Mt.kn (h : Mt K R D v) (hI : HI H R D) : (∃ k, Kn K H v k) ∧ ∀ z, v = .str z → TxtOk z := by
  rcases h with h | ⟨p, o, rfl, m, l⟩
  · obtain ⟨⟨k, kn⟩, q⟩ := h
    exact ⟨⟨k, hI.kn kn⟩, q⟩
  · rcases l with ⟨xs, rfl⟩ | ⟨kvs, rfl⟩
    · exact ⟨⟨.lst, .lst (hI.get m)⟩, fun z e => by cases e⟩
    · exact ⟨⟨.dict, .dict (hI.get m)⟩, fun z e => by cases e⟩
end
theorem rin_lst {x : V} {p : Addr} {xs : List V} {H : Hp} {Q : VK} (e : H p = some (.lst xs)) (f : flatV x = true) (g : xs.all flatV = true) (q : Q (.bl (inV x xs)) H) : RIn false x (.ref p) H Q := .lst e f g q
theorem rni_lst {x : V} {p : Addr} {xs : List V} {H : Hp} {Q : VK} (e : H p = some (.lst xs)) (f : flatV x = true) (g : xs.all flatV = true) (q : Q (.bl (!inV x xs)) H) : RIn true x (.ref p) H Q := .lst e f g q
/-! ### split to a list that changes, zfill, reverse -/
inductive RSplitM : V → List V → Hp → VK → Prop
  | mk {z y : Str} {H : Hp} {Q : VK} : (y.length == 0) = false → z.length + 2 ≤ 1000000 → AlM (.lst ((Txt.split z y).map V.str)) H Q → RSplitM (.str z) [.str y] H Q
theorem mt_splitUM {X : Cx} : MtR X "str.split" RSplitM := by
  intro pins s σ H x xs v us Q I rx rs h
  cases h with
  | mk h1 h2 q => exact mt_split pins s σ H _ _ v us Q I rx rs ⟨_, _, rfl, rfl, h1, small_ok h2, q⟩
inductive RZfill : V → List V → Hp → VK → Prop
  | mk {z : Str} {i : Int} {H : Hp} {Q : VK} : PadOk i = true → Q (.str (Txt.zfill z i)) H → RZfill (.str z) [.int i] H Q
theorem mt_zfillU {X : Cx} : MtR X "str.zfill" RZfill := by
  intro pins s σ H x xs v us Q I rx rs h
  cases h with
  | mk h1 q => exact mt_zfill pins s σ H _ _ v us Q I rx rs ⟨_, _, rfl, rfl, h1, q⟩
theorem rev_now {H D : Hp} {R : Cells} {Q : VK} {p : Addr} {xs : List V} (hi : HI H ((p, .lst xs) :: R) D) (k : ∀ H', HI H' ((p, .lst xs.reverse) :: R) D → Q .non H') : rReverse (.ref p) [] H Q := ⟨p, xs, rfl, rfl, hi.get (List.mem_cons_self ..), k _ hi.set⟩
/-- a refusal gets out: of the class at C, the very thing v in it -/
def Outs (E : XK) (C : Addr) (v : V) (R : Cells) (D : Hp) : Prop := ∀ d H' D', HI H' R D' → Ex D D' → D' d = some (.xd [(("found" : Str), v)]) → E (.ref C) (some d) H'
theorem Outs.mono {E : XK} {C : Addr} {v : V} {R : Cells} {D D1 : Hp} (o : Outs E C v R D) (x : Ex D D1) : Outs E C v R D1 := fun d H' D' hi ex hd => o d H' D' hi (x.trans ex) hd
theorem Outs.cell {E : XK} {C : Addr} {v : V} {R : Cells} {D : Hp} {x : Addr × HO} (o : Outs E C v R D) : Outs E C v (x :: R) D := fun d H' D' hi ex hd => o d H' D' hi.drop ex hd
end Wk

set_option maxRecDepth 100000
set_option maxHeartbeats 4000000
/-! A value's type, where lists and dicts may be cells. -/
namespace Wk
open PySem PySem.Spec PyProof.Rows L2
theorem Ty.mono {K : PySem.W.Frag} {H H' : Hp} {v : V} {t : Value} (h : Ty K H v t) (x : Ex H H') : Ty K H' v t := by
  cases h with
  | b h hn e => exact .b (h.mono x) hn e
  | o h => exact .o (h.mono x)
def TyC (K : PySem.W.Frag) (R : Cells) (D : Hp) (v : V) (t : Value) : Prop := Ty K D v t ∨ (∃ p xs, v = .ref p ∧ ((p, HO.lst xs) : Addr × HO) ∈ R ∧ t = .type "list") ∨ ∃ p kvs, v = .ref p ∧ ((p, HO.dK kvs) : Addr × HO) ∈ R ∧ t = .type "dict"
section
variable {K : PySem.W.Frag} {R R' : Cells} {D D' H : Hp} {v : V} {t : Value} {c : Addr × HO}
theorem TyC.mono (h : TyC K R D v t) (x : Ex D D') : TyC K R D' v t := by
  rcases h with h | h
  · exact .inl (h.mono x)
  · exact .inr h
theorem TyC.sub (h : TyC K R D v t) (s : ∀ q ∈ R, q ∈ R') : TyC K R' D v t := by
  rcases h with h | ⟨p, o, e, m, l⟩ | ⟨p, o, e, m, l⟩
  · exact .inl h
  · exact .inr (.inl ⟨p, o, e, s _ m, l⟩)
  · exact .inr (.inr ⟨p, o, e, s _ m, l⟩)
theorem TyC.cell (h : TyC K R D v t) : TyC K (c :: R) D v t := h.sub fun q hq => List.mem_cons_of_mem _ hq
theorem TyC.ty (h : TyC K R D v t) (hI : HI H R D) : Ty K H v t := by
  rcases h with h | ⟨p, xs, rfl, m, rfl⟩ | ⟨p, kvs, rfl, m, rfl⟩
  · exact h.mono hI.sub
  · exact .b (.lst (hI.get m)) (by decide +kernel) rfl
  · exact .b (.dict (hI.get m)) (by decide +kernel) rfl
end
end Wk

set_option maxRecDepth 100000
set_option maxHeartbeats 4000000
/-! Lists that grow among the cells; things that may be such lists, and what repr shows of them. -/
namespace Wk
open PySem PySem.Spec PyProof.Rows L2
abbrev LCs := List (Addr × List V)
def lcs (LC : LCs) : Cells := LC.map fun c => (c.1, HO.lst c.2)
/-- a list's items, at most m -/
def Lg (D : Hp) (m : Nat) (xs : List V) : Prop := ∃ ds, RepL D xs ds ∧ (∀ d ∈ ds, Sm d 100 3) ∧ ds.length ≤ m
theorem Lg.mono {D D' : Hp} {m m' : Nat} {xs : List V} (h : Lg D m xs) (x : Ex D D') (l : m ≤ m') : Lg D' m' xs := by
  obtain ⟨ds, a, b, c⟩ := h
  exact ⟨ds, a.mono x, b, Nat.le_trans c l⟩
theorem Lg.snoc {D : Hp} {m : Nat} {xs : List V} {v : V} {d : PyData} (h : Lg D m xs) (r : Rep D v d) (s : Sm d 100 3) : Lg D (m + 1) (xs ++ [v]) := by
  obtain ⟨ds, a, b, c⟩ := h
  refine ⟨ds ++ [d], a.snoc r, fun e he => ?_, by rw [List.length_append]; exact Nat.succ_le_succ c⟩
  rcases List.mem_append.mp he with q | q
  · exact b e q
  · rw [List.mem_singleton.mp q]
    exact s
theorem Lg.len {D : Hp} {m : Nat} {xs : List V} (h : Lg D m xs) : xs.length ≤ m := by
  obtain ⟨ds, a, b, c⟩ := h
  rw [a.length]
  exact c
/-- a thing: data, or one of the lists -/
def Vg (K : PySem.W.Frag) (LC : LCs) (D : Hp) (v : V) : Prop := (∃ k d, Kn K D v k ∧ k.is "list" = false ∧ Rep D v d ∧ Sm d 100 3 ∧ ∀ z, v = .str z → TxtOk z) ∨ ∃ c ∈ LC, v = .ref c.1
section
variable {K : PySem.W.Frag} {LC : LCs} {D D' H : Hp} {R : Cells} {v : V}
theorem Vg.mono (h : Vg K LC D v) (x : Ex D D') : Vg K LC D' v := by
  rcases h with ⟨k, d, a, b, c, e, f⟩ | h
  · exact .inl ⟨k, d, a.mono x, b, c.mono x, e, f⟩
  · exact .inr h
theorem Vg.more {LN : LCs} (h : Vg K LC D v) : Vg K (LN ++ LC) D v := by
  rcases h with h | ⟨c, m, e⟩
  · exact .inl h
  · exact .inr ⟨c, List.mem_append_right _ m, e⟩
theorem Vg.m (h : Vg K LC D v) (s : ∀ q ∈ lcs LC, q ∈ R) : Mt K R D v := by
  rcases h with ⟨k, d, a, b, c, e, f⟩ | ⟨c, m, rfl⟩
  · exact .inl ⟨⟨k, a⟩, f⟩
  · exact .inr ⟨c.1, .lst c.2, rfl, s _ (List.mem_map.mpr ⟨c, m, rfl⟩), .inl ⟨_, rfl⟩⟩
theorem Vg.non : Vg K LC D .non := .inl ⟨.non, _, .non, rfl, .non, Sm.non.mono (by decide) (by decide), fun z e => by cases e⟩
theorem Vg.bl (b : Bool) : Vg K LC D (.bl b) := .inl ⟨.bl, _, .bl b, rfl, .bl b, (Sm.bl b).mono (by decide) (by decide), fun z e => by cases e⟩
theorem Vg.int {i : Int} (h : i.natAbs < 10 ^ 30) : Vg K LC D (.int i) := .inl ⟨.int, _, .int i, rfl, .int i, (Sm.int h).mono (by decide) (by decide), fun z e => by cases e⟩
theorem Vg.str {z : Str} (h : Sg z) (l : z.length ≤ 9) : Vg K LC D (.str z) := .inl ⟨.str, _, .str z, rfl, .str z, (Sm.str h).mono (by omega) (by decide), fun y e => by cases e; exact ⟨by omega, h⟩⟩
theorem Vg.tup {p : Addr} {xs : List V} {d : PyData} (e : D p = some (.tup xs)) (r : Rep D (.ref p) d) (s : Sm d 100 3) : Vg K LC D (.ref p) := .inl ⟨.tup, d, .tup e, rfl, r, s, fun z e => by cases e⟩
theorem Vg.dict {p : Addr} {xs : List (Key × V)} {d : PyData} (e : D p = some (.dK xs)) (r : Rep D (.ref p) d) (s : Sm d 100 3) : Vg K LC D (.ref p) := .inl ⟨.dict, d, .dict e, rfl, r, s, fun z e => by cases e⟩
/-- the thing as repr sees it -/
theorem Vg.rep (h : Vg K LC D v) {m : Nat} (hm : m ≤ 100) (hI : HI H R D) (s : ∀ q ∈ lcs LC, q ∈ R) (g : ∀ c ∈ LC, Lg D m c.2) : ∃ d, Rep H v d ∧ Sm d 11000 4 := by
  rcases h with ⟨k, d, a, b, c, e, f⟩ | ⟨c, mc, rfl⟩
  · exact ⟨d, hI.rep c, e.mono (by decide) (by decide)⟩
  · obtain ⟨ds, r, sm, l⟩ := g c mc
    refine ⟨.list ds, .lst (hI.get (s _ (List.mem_map.mpr ⟨c, mc, rfl⟩))) (r.mono hI.sub), (Sm.list sm).mono ?_ (Nat.le_refl _)⟩
    omega
end
/-! ### a member cell is changed -/
def putC (p : Addr) (o : HO) (R : Cells) : Cells := R.map fun q => if q.1 = p then (p, o) else q
def putL (p : Addr) (xs : List V) (LC : LCs) : LCs := LC.map fun c => if c.1 = p then (p, xs) else c
theorem HI.put {H D : Hp} {R : Cells} {p : Addr} {o u : HO} (h : HI H R D) (m : (p, o) ∈ R) : HI (upd H p u) (putC p u R) D := by
  have keys : (putC p u R).map (·.1) = R.map (·.1) := by
    unfold putC
    rw [List.map_map]
    refine List.map_congr_left fun q _ => ?_
    show (if q.1 = p then (p, u) else q).1 = q.1
    by_cases e : q.1 = p
    · rw [if_pos e, e]
    · rw [if_neg e]
  have dp := (h.cell _ m).2
  refine ⟨by rw [keys]; exact h.nd, fun q hq => ?_, fun b w e => ?_⟩
  · obtain ⟨q0, m0, rfl⟩ := List.mem_map.mp hq
    by_cases e : q0.1 = p
    · rw [if_pos e]
      exact ⟨upd_same, dp⟩
    · rw [if_neg e, upd_ne e]
      exact h.cell q0 m0
  · have ne : b ≠ p := fun e2 => by
      rw [e2, dp] at e
      cases e
    rw [upd_ne ne]
    exact h.sub b w e
theorem putC_other {p : Addr} {o : HO} {R : Cells} (h : p ∉ R.map (·.1)) : putC p o R = R := by
  unfold putC
  refine (List.map_congr_left fun q hq => ?_).trans (List.map_id R)
  rw [if_neg fun e => h (List.mem_map.mpr ⟨q, hq, e⟩)]
  rfl
theorem putC_lcs {p : Addr} {xs : List V} {LC : LCs} : putC p (.lst xs) (lcs LC) = lcs (putL p xs LC) := by
  unfold putC lcs putL
  rw [List.map_map, List.map_map]
  refine List.map_congr_left fun c _ => ?_
  show (if c.1 = p then (p, HO.lst xs) else (c.1, HO.lst c.2)) = _
  by_cases e : c.1 = p
  · rw [if_pos e]
    simp [e]
  · rw [if_neg e]
    simp [e]
theorem putC_app {p : Addr} {o : HO} {R R' : Cells} : putC p o (R ++ R') = putC p o R ++ putC p o R' := List.map_append
/-- one of the lists gets one item more -/
theorem app_lc {H D : Hp} {R0 R : Cells} {LC : LCs} {c : Addr × List V} {v : V} {Q : VK} (h : HI H (R0 ++ (lcs LC ++ R)) D) (m : c ∈ LC) (hl : c.2.length < 1000000) (k : ∀ H', HI H' (R0 ++ (lcs (putL c.1 (c.2 ++ [v]) LC) ++ R)) D → Q .non H') : rAppend (.ref c.1) [v] H Q := by
  have mc : (c.1, HO.lst c.2) ∈ lcs LC := List.mem_map.mpr ⟨c, m, rfl⟩
  have mm : (c.1, HO.lst c.2) ∈ R0 ++ (lcs LC ++ R) := List.mem_append_right _ (List.mem_append_left _ mc)
  have nd := h.nd
  rw [List.map_append, List.map_append, List.nodup_append, List.nodup_append] at nd
  obtain ⟨_, ⟨_, _, n2⟩, n1⟩ := nd
  have in1 : c.1 ∈ (lcs LC).map (·.1) := List.mem_map.mpr ⟨_, mc, rfl⟩
  have e0 : c.1 ∉ R0.map (·.1) := fun q => n1 _ q _ (List.mem_append_left _ in1) rfl
  have e2 : c.1 ∉ R.map (·.1) := fun q => n2 _ in1 _ q rfl
  refine ⟨c.1, c.2, v, rfl, rfl, h.get mm, by rw [sizeLine_eq]; omega, k _ ?_⟩
  have q := h.put (u := .lst (c.2 ++ [v])) mm
  rw [putC_app, putC_app, putC_other e0, putC_other e2, putC_lcs] at q
  exact q
theorem putL_lg {D : Hp} {m : Nat} {LC : LCs} {p : Addr} {xs : List V} (g : ∀ c ∈ LC, Lg D m c.2) (h : Lg D (m + 1) xs) : ∀ c ∈ putL p xs LC, Lg D (m + 1) c.2 := fun c hc => by
  obtain ⟨c0, m0, rfl⟩ := List.mem_map.mp hc
  by_cases e : c0.1 = p
  · rw [if_pos e]
    exact h
  · rw [if_neg e]
    exact (g c0 m0).mono (Ex.refl _) (Nat.le_succ _)
theorem Vg.put {K : PySem.W.Frag} {D : Hp} {LC : LCs} {p : Addr} {xs : List V} {v : V} (h : Vg K LC D v) : Vg K (putL p xs LC) D v := by
  rcases h with h | ⟨c, m, rfl⟩
  · exact .inl h
  · refine .inr ⟨if c.1 = p then (p, xs) else c, List.mem_map.mpr ⟨c, m, rfl⟩, ?_⟩
    by_cases e : c.1 = p
    · rw [if_pos e, e]
    · rw [if_neg e]
end Wk

set_option maxRecDepth 100000
set_option maxHeartbeats 4000000
/-! Dicts over the heap in two parts; len of own instances; walks over a list or a tuple. -/
namespace Wk
open PySem PySem.Spec PyProof.Rows L2
theorem hu1 {k : Nat} {A : Around} (r : Room k A) : A.units + 1 < cLine := by have := r.units; omega
def DgP (x : V) (H : Hp) (N : Addr → Prop) : Prop := ∃ a, x = .ref a ∧ IsD H a ∧ N a
def DqP (a : Addr) (y : V) (H : Hp) (N : Option V → Prop) : Prop := ∃ o, DGet H a y o ∧ N o
def DvP (x y : V) (H : Hp) (N : V → Prop) : Prop := ∃ a v, x = .ref a ∧ DGet H a y (some v) ∧ N v
def DiP (x y : V) (H : Hp) (N : Option V → Prop) : Prop := ∃ a o, x = .ref a ∧ DGet H a y o ∧ N o
def DpP (x y v : V) (H : Hp) (N : Hp → Prop) : Prop := ∃ a H', x = .ref a ∧ DPut H a y v H' ∧ N H'
def DoP (a : Addr) (y : V) (H : Hp) (Q : VK) : Prop := ∃ kvs k v, H a = some (.dK kvs) ∧ y = kV k ∧ valV kvs k = some v ∧ Q v (upd H a (.dK (dropK kvs k)))
section
variable {K : PySem.W.Frag} {σ : L2.St} {H D : Hp} {R : Cells} {Q : VK} {td ty tx tv : TE} {Ds : Ends} {a : Addr} {kvs : List (Key × V)} {i : Int} {z : Str} {v : V}
theorem se_dget2 (h : td σ H fun x H1 => DgP x H1 fun a => ty σ H1 fun y H2 => tx σ H2 fun z H3 => DqP a y H3 fun o => Q (o.getD z) H3) : tDGet2 td ty tx σ H Q := h
theorem se_dget1 (h : td σ H fun x H1 => DgP x H1 fun a => ty σ H1 fun y H2 => DqP a y H2 fun o => Q (o.getD .non) H2) : tDGet1 td ty σ H Q := h
theorem dg_mk {N : Addr → Prop} (e : H a = some (.dK kvs)) (h : N a) : DgP (.ref a) H N := ⟨a, rfl, .inl ⟨kvs, .inl e⟩, h⟩
theorem dq_i {N : Option V → Prop} (e : H a = some (.dK kvs)) (h : N (valV kvs (.inl i))) : DqP a (.int i) H N := ⟨_, DGet.k (k := Sum.inl i) e, h⟩
theorem dq_s {N : Option V → Prop} (e : H a = some (.dK kvs)) (h : N (valV kvs (.inr z))) : DqP a (.str z) H N := ⟨_, DGet.k (k := Sum.inr z) e, h⟩
theorem se_dsub (h : td σ H fun x H1 => ty σ H1 fun y H2 => DvP x y H2 fun v => Q v H2) : tDGet td ty σ H Q := h
theorem dv_i {N : V → Prop} (e : H a = some (.dK kvs)) (l : valV kvs (.inl i) = some v) (h : N v) : DvP (.ref a) (.int i) H N := ⟨a, v, rfl, by rw [← l]; exact DGet.k (k := Sum.inl i) e, h⟩
theorem dv_s {N : V → Prop} (e : H a = some (.dK kvs)) (l : valV kvs (.inr z) = some v) (h : N v) : DvP (.ref a) (.str z) H N := ⟨a, v, rfl, by rw [← l]; exact DGet.k (k := Sum.inr z) e, h⟩
theorem se_din (h : ty σ H fun y H1 => td σ H1 fun x H2 => DiP x y H2 fun o => Q (.bl o.isSome) H2) : tDIn ty td σ H Q := h
theorem se_dni (h : ty σ H fun y H1 => td σ H1 fun x H2 => DiP x y H2 fun o => Q (.bl (!o.isSome)) H2) : tDNotIn ty td σ H Q := h
theorem di_i {N : Option V → Prop} (e : H a = some (.dK kvs)) (h : N (valV kvs (.inl i))) : DiP (.ref a) (.int i) H N := ⟨a, _, rfl, DGet.k (k := Sum.inl i) e, h⟩
theorem di_s {N : Option V → Prop} (e : H a = some (.dK kvs)) (h : N (valV kvs (.inr z))) : DiP (.ref a) (.str z) H N := ⟨a, _, rfl, DGet.k (k := Sum.inr z) e, h⟩
theorem st_dput (h : tv σ H fun v H1 => td σ H1 fun x H2 => ty σ H2 fun y H3 => DpP x y v H3 fun H4 => Ds.nx σ H4) : sDPut td ty tv Ds σ H := h
theorem dp_i {N : Hp → Prop} (hi : HI H ((a, .dK kvs) :: R) D) (hl : kvs.length < 1000000) (k : ∀ H', HI H' ((a, .dK (putK kvs (.inl i) v)) :: R) D → N H') : DpP (.ref a) (.int i) v H N :=
  ⟨a, _, rfl, DPut.k (k := Sum.inl i) (hi.get (List.mem_cons_self ..)) (by rw [sizeLine_eq]; omega), k _ hi.set⟩
theorem dp_s {N : Hp → Prop} (hi : HI H ((a, .dK kvs) :: R) D) (hl : kvs.length < 1000000) (k : ∀ H', HI H' ((a, .dK (putK kvs (.inr z) v)) :: R) D → N H') : DpP (.ref a) (.str z) v H N :=
  ⟨a, _, rfl, DPut.k (k := Sum.inr z) (hi.get (List.mem_cons_self ..)) (by rw [sizeLine_eq]; omega), k _ hi.set⟩
theorem se_dpop1 (h : td σ H fun x H1 => DgP x H1 fun a => ty σ H1 fun y H2 => DoP a y H2 Q) : tDPop1 td ty σ H Q := h
theorem do_i (hi : HI H ((a, .dK kvs) :: R) D) (l : valV kvs (.inl i) = some v) (k : ∀ H', HI H' ((a, .dK (dropK kvs (.inl i))) :: R) D → Q v H') : DoP a (.int i) H Q := ⟨kvs, .inl i, v, hi.get (List.mem_cons_self ..), rfl, l, k _ hi.set⟩
end
def tDNewM : TE := tDNewK
theorem pe_dnewM {X : Cx} {pos : Pos} : PE X (.Dict [] [] pos) tDNewM := pe_dnewK
theorem se_dnewM {σ : L2.St} {H : Hp} {Q : VK} (h : AlM (.dK []) H Q) : tDNewM σ H Q := h
/-! ### len of an own instance -/
inductive RLenO (C : Addr) (sp : Sp) : List V → Hp → VK → Prop
  | b {xs : List V} {H : Hp} {Q : VK} : RLen xs H Q → RLenO C sp xs H Q
  | o {a dx : Addr} {fs : List (Str × V)} {H : Hp} {Q : VK} : H a = some (.ins C dx fs) → sp [.ref a] H (fun v H' => ∃ n : Int, v = .int n ∧ 0 ≤ n ∧ n < 2 ^ 62 ∧ Q (.int n) H') (fun _ _ _ => False) → RLenO C sp [.ref a] H Q
theorem call_lenO {X : Cx} {k : Nat} {f C : Addr} {sp : Sp} {ps : List Str} (hc : PySem.W.findIn X.K (.ref C) "__len__" = some (some (.ref f))) (hf : PySem.W.isFn X.K (.ref f) = true) (F : FnG X.prog X.w X.K X.mg X.base k f ps sp) (hb : Binds X.K (fdOf X.K f) ps []) (hgu : X.A.guards = some []) (hr : Room (k + 1) X.A) :
    CallR X (.builtin "len") (RLenO C sp) := by
  intro pins s σ H xs us Q I r h
  cases h with
  | b q => exact call_lenU pins s σ H _ us Q I r q
  | @o a dx fs _ _ e q =>
    obtain ⟨u, rfl, ru⟩ := vals1 r
    cases ru
    obtain ⟨ox, od, J⟩ := ins_at I e
    obtain ⟨m, hF⟩ := I.fr
    refine PySem.W.len_K hF I.ok.mod.kin J hc hf ?_
    refine wpAny_mono (run_at F (by exact hgu) rfl hr.in1 hb I (.cons (show L2.RelV (.ref a) (.ref a) from rfl) .nil) q) (fun u' s' hu => ?_) fun _ _ z => z
    obtain ⟨w, H', I', rw', n, rfl, n0, n1, q'⟩ := hu
    obtain ⟨t, rfl⟩ := rw'
    exact ⟨⟨n0, Int.lt_trans n1 (by decide)⟩, ⟨.int n, H', I'.tok _, ⟨_, rfl⟩, q'⟩⟩
/-! ### a walk over a list or a tuple -/
def iSeq (K : PySem.W.Frag) (tl : TE) : TI := fun σ H R => tl σ H fun x H1 => (∃ a, x = .ref a ∧ (∃ xs, SqL K H1 a xs) ∧ R (Itl K a) H1) ∨ ∃ a, x = .ref a ∧ (∃ xs, SqT K H1 a xs) ∧ R (Itt K a) H1
theorem pi_seq {X : Cx} {tg l : Expr} {tl : TE} (hl : PE X l tl) : PI X tg l (iSeq X.K tl) := by
  refine ⟨fun pins s σ H R I h => ?_⟩
  refine thn (hl.run pins s σ H _ I h) fun v s1 ⟨x, H1, I1, r1, q1⟩ => ?_
  rcases q1 with ⟨a, e, ⟨xs, hq⟩, q⟩ | ⟨a, e, ⟨xs, hq⟩, q⟩
  · subst e
    cases r1
    obtain ⟨its, rv, p, hz⟩ := I1.list hq
    refine wpAny_pyIter_list p.isList ?_
    refine ⟨s1.heap.objs.size, [s1.heap.objs.size], _, _, H1, rfl, I1.kept (t' := s1.toks) fun b o e => Heap.get?_push_of_some _ e, turn_list a _, ⟨_, Heap.get?_push_size _ rfl, rfl, rfl⟩, fun b hb => ?_, q⟩
    have e : b = s1.heap.objs.size := by simpa using hb
    subst e
    exact I1.fpOk (Nat.le_refl _) (I1.hok.fresh (Nat.le_refl _))
  · subst e
    cases r1
    obtain ⟨its, rv, p, hz⟩ := I1.tuple hq
    refine wpAny_pyIter_tuple (show s1.heap.IsTuple a its.toArray from p) ?_
    refine ⟨s1.heap.objs.size, [s1.heap.objs.size], _, _, H1, rfl, I1.kept (t' := s1.toks) fun b o e => Heap.get?_push_of_some _ e, turn_tuple a _, ⟨_, Heap.get?_push_size _ rfl, rfl, rfl⟩, fun b hb => ?_, q⟩
    have e : b = s1.heap.objs.size := by simpa using hb
    subst e
    exact I1.fpOk (Nat.le_refl _) (I1.hok.fresh (Nat.le_refl _))
section
variable {K : PySem.W.Frag} {σ : L2.St} {H : Hp} {te : TE} {R : It → Hp → Prop} {a : Addr} {xs : List V}
theorem it_seq (h : te σ H fun x H1 => (∃ a, x = .ref a ∧ (∃ xs, SqL K H1 a xs) ∧ R (Itl K a) H1) ∨ ∃ a, x = .ref a ∧ (∃ xs, SqT K H1 a xs) ∧ R (Itt K a) H1) : iSeq K te σ H R := h
theorem seq_l {P P' : Addr → Prop} (h : H a = some (.lst xs)) (q : P a) : (∃ b, V.ref a = .ref b ∧ (∃ xs, SqL K H b xs) ∧ P b) ∨ ∃ b, V.ref a = .ref b ∧ (∃ xs, SqT K H b xs) ∧ P' b := .inl ⟨a, rfl, ⟨xs, SqL.of h⟩, q⟩
theorem seq_t {P P' : Addr → Prop} (h : H a = some (.tup xs)) (q : P' a) : (∃ b, V.ref a = .ref b ∧ (∃ xs, SqL K H b xs) ∧ P b) ∨ ∃ b, V.ref a = .ref b ∧ (∃ xs, SqT K H b xs) ∧ P' b := .inr ⟨a, rfl, ⟨xs, SqT.of h⟩, q⟩
end
/-! ### sorted, min, dict -/
inductive RSortI : List V → Hp → VK → Prop
  | l {p : Addr} {ns : List Int} {H : Hp} {Q : VK} : H p = some (.lst (ns.map V.int)) → ns.length < 64 → (∀ ns' : List Int, ns'.Perm ns → ns'.Pairwise (· ≤ ·) → AlD (.lst (ns'.map V.int)) H Q) → RSortI [.ref p] H Q
  | d {p : Addr} {kvs : List (Key × V)} {ks : List Int} {H : Hp} {Q : VK} : H p = some (.dK kvs) → kvs.map (·.1) = ks.map Sum.inl → ks.length < 64 → (∀ ys : List Int, ys.Perm ks → ys.Pairwise (· ≤ ·) → AlD (.lst (ys.map V.int)) H Q) → RSortI [.ref p] H Q
theorem call_sortI {X : Cx} (hc : X.calm = true) : CallR X (.builtin "sorted") RSortI := by
  intro pins s σ H xs us Q I r h
  cases h with
  | l e l q => exact cr_sorted pins s σ H _ us Q I r ⟨_, _, rfl, SqL.of e, l, fun ns' p h1 h2 h3 => q ns' h1 h2 p h3⟩
  | d e m l q => exact call_sortedDI hc pins s σ H _ us Q I r ⟨_, _, _, rfl, .inl e, m, l, fun ys p h1 h2 h3 => q ys h1 h2 p h3⟩
/-- a statement that nothing reaches -/
theorem ps_never {X : Cx} {st : Stmt} : PS X st (fun _ _ _ => False) := ⟨fun _ _ _ _ _ _ h => h.elim⟩
/-! ### a list or a tuple, data or a cell -/
inductive Sq3 (R : Cells) (D : Hp) (p : Addr) (xs : List V) : Prop
  | l (e : D p = some (.lst xs))
  | t (e : D p = some (.tup xs))
  | c (m : ((p, HO.lst xs) : Addr × HO) ∈ R)
theorem Sq3.mono {R : Cells} {D D' : Hp} {p : Addr} {xs : List V} (s : Sq3 R D p xs) (x : Ex D D') : Sq3 R D' p xs := by
  cases s with
  | l e => exact .l (x _ _ e)
  | t e => exact .t (x _ _ e)
  | c m => exact .c m
theorem Sq3.sub {R R' : Cells} {D : Hp} {p : Addr} {xs : List V} (s : Sq3 R D p xs) (h : ∀ q ∈ R, q ∈ R') : Sq3 R' D p xs := by
  cases s with
  | l e => exact .l e
  | t e => exact .t e
  | c m => exact .c (h _ m)
theorem Sq3.len {H D : Hp} {R : Cells} {p : Addr} {xs : List V} {Q : VK} (hi : HI H R D) (s : Sq3 R D p xs) (q : Q (.int xs.length) H) : RLen [.ref p] H Q := by
  cases s with
  | l e => exact .lst (hi.dat e) q
  | t e => exact .tup (hi.dat e) q
  | c m => exact .lst (hi.get m) q
theorem Sq3.list {H D : Hp} {R : Cells} {p : Addr} {xs : List V} {Q : VK} (hi : HI H R D) (s : Sq3 R D p xs) (q : AlD (.lst xs) H Q) : RListO [.ref p] H Q := by
  cases s with
  | l e => exact .l (hi.dat e) q
  | t e => exact .t (hi.dat e) q
  | c m => exact .l (hi.get m) q
theorem Sq3.isi {K : PySem.W.Frag} {H D : Hp} {R : Cells} {p T : Addr} {xs : List V} {Q : VK} (hi : HI H R D) (s : Sq3 R D p xs) (e : H T = some (.tup [.ty "list", .ty "tuple"])) (q : Q (.bl true) H) : RIsiT K [.ref p, .ref T] H Q := by
  have hs : ∀ n ∈ (["list", "tuple"] : List String), n ∈ six := by decide +kernel
  cases s with
  | l e1 => exact .ty (k := .lst) (ns := ["list", "tuple"]) (.lst (hi.dat e1)) e hs q
  | t e1 => exact .ty (k := .tup) (ns := ["list", "tuple"]) (.tup (hi.dat e1)) e hs q
  | c m => exact .ty (k := .lst) (ns := ["list", "tuple"]) (.lst (hi.get m)) e hs q
section
variable {K : PySem.W.Frag} {g : TG} {tb : TS} {D : Ends} {σ : L2.St} {H D0 : Hp} {R0 : Cells} {tt : TT} {te : TE} {vs : List Nat} {Q : VK} {a : Addr} {xs : List V}
theorem lc_seq (s : Sq3 R0 D0 a xs) (I : Nat → List V → Cells → Hp → Prop) (hi : HI H R0 D0) (h0 : I 0 [] R0 D0) (hl : ∀ i acc R Dd, I i acc R Dd → (∀ q ∈ R0, q ∈ R) ∧ Ex D0 Dd)
    (hs : ∀ L i acc x R Dd H, xs[i]? = some x → HI H ((L, .lst acc) :: R) Dd → I i acc R Dd → acc.length ≤ i → g x (wipe σ vs) H fun σ2 H2 => wipe σ2 vs = wipe σ vs ∧ tt σ2 H2 fun b H3 => if b = true then te σ2 H3 (LE L I (i + 1)) else PW' L I (i + 1) H3)
    (hd : ∀ L acc R Dd H, HI H ((L, .lst acc) :: R) Dd → I xs.length acc R Dd → acc.length ≤ xs.length → Q (.ref L) H) :
    (∃ b, V.ref a = .ref b ∧ (∃ xs, SqL K H b xs) ∧ LcK (Itl K b) g tt te vs σ H Q) ∨ ∃ b, V.ref a = .ref b ∧ (∃ xs, SqT K H b xs) ∧ LcK (Itt K b) g tt te vs σ H Q := by
  cases s with
  | l e => exact .inl ⟨a, rfl, ⟨xs, SqL.of (hi.dat e)⟩, lc_lst I hi h0 (fun i acc R Dd p => (hl i acc R Dd p).2 _ _ e) hs hd⟩
  | t e => exact .inr ⟨a, rfl, ⟨xs, SqT.of (hi.dat e)⟩, lc_tup I hi h0 (fun i acc R Dd p => (hl i acc R Dd p).2 _ _ e) hs hd⟩
  | c m => exact .inl ⟨a, rfl, ⟨xs, SqL.of (hi.get m)⟩, lc_hi walk_list I hi h0 (fun i acc R Dd H _ q p => SqL.of (q.get ((hl i acc R Dd p).1 _ m))) (fun L i acc x R Dd H H' hn a b c y => by
      obtain ⟨rfl, y⟩ := y
      exact hs L i acc x R Dd H' y a b c) hd⟩
theorem for_seq (s : Sq3 R0 D0 a xs) (I : Nat → L2.St → Cells → Hp → Prop) (hi : HI H R0 D0) (h0 : I 0 σ R0 D0) (hl : ∀ i σ R Dd, I i σ R Dd → (∀ q ∈ R0, q ∈ R) ∧ Ex D0 Dd)
    (hs : ∀ (i : Nat) x σ R Dd H, xs[i]? = some x → HI H R Dd → I i σ R Dd → g x σ H fun σ2 H2 => tb { D with nx := NX I (i + 1), ct := NX I (i + 1), bk := D.nx } σ2 H2) (hd : ∀ σ R Dd H, HI H R Dd → I xs.length σ R Dd → D.nx σ H) :
    (∃ b, V.ref a = .ref b ∧ (∃ xs, SqL K H b xs) ∧ ForK (Itl K b) g tb D σ H) ∨ ∃ b, V.ref a = .ref b ∧ (∃ xs, SqT K H b xs) ∧ ForK (Itt K b) g tb D σ H := by
  cases s with
  | l e => exact .inl ⟨a, rfl, ⟨xs, SqL.of (hi.dat e)⟩, for_lst I hi h0 (fun i σ R Dd p => (hl i σ R Dd p).2 _ _ e) hs hd⟩
  | t e => exact .inr ⟨a, rfl, ⟨xs, SqT.of (hi.dat e)⟩, for_tup I hi h0 (fun i σ R Dd p => (hl i σ R Dd p).2 _ _ e) hs hd⟩
  | c m => exact .inl ⟨a, rfl, ⟨xs, SqL.of (hi.get m)⟩, for_hi walk_list I hi h0 (fun i σ R Dd H _ q p => SqL.of (q.get ((hl i σ R Dd p).1 _ m))) (fun i x σ R Dd H H' hn a b y => by
      obtain ⟨rfl, y⟩ := y
      exact hs i x σ R Dd H' y a b) hd⟩
end
/-! ### dict(..) -/
inductive RDictO (K : PySem.W.Frag) : List V → Hp → VK → Prop
  | p {a : Addr} {ps : List Addr} {kvs : List (Key × V)} {H : Hp} {Q : VK} : H a = some (.lst (ps.map V.ref)) → Paired (fun p kv => H p = some (.tup [kV kv.1, kv.2])) ps kvs → AlD (.dK (mergeK [] kvs)) H Q → RDictO K [.ref a] H Q
  | d {a : Addr} {kvs : List (Key × V)} {H : Hp} {Q : VK} : H a = some (.dK kvs) → AlD (.dK kvs) H Q → RDictO K [.ref a] H Q
inductive RDictM (K : PySem.W.Frag) : List V → Hp → VK → Prop
  | d {a : Addr} {kvs : List (Key × V)} {H : Hp} {Q : VK} : H a = some (.dK kvs) → AlM (.dK kvs) H Q → RDictM K [.ref a] H Q
theorem paired_mono {α β : Type} {r s : α → β → Prop} (h : ∀ a b, r a b → s a b) : ∀ {xs : List α} {ys : List β}, Paired r xs ys → Paired s xs ys
  | _, _, .nil => .nil
  | _, _, .cons a l => .cons (h _ _ a) (paired_mono h l)
theorem call_dictO {X : Cx} (hc : X.calm = true) : CallR X (.type "dict") (RDictO X.K) := by
  intro pins s σ H xs us Q I r h
  cases h with
  | p e pr q => exact call_dictP hc pins s σ H _ us Q I r ⟨_, _, _, rfl, SqL.of e, paired_mono (fun _ _ h => SqT.of h) pr, q⟩
  | d e q => exact call_dictD pins s σ H _ us Q I r ⟨_, _, rfl, .inl e, q⟩
theorem call_dictOM {X : Cx} (hc : X.calm = true) : CallR X (.type "dict") (RDictM X.K) := by
  intro pins s σ H xs us Q I r h
  cases h with
  | d e q => exact call_dictD pins s σ H _ us Q I r ⟨_, _, rfl, .inl e, q⟩
/-- a field read within a comprehension -/
theorem pe_fldC {X : Cx} {K : PySem.W.Frag} {e : Expr} {ta : TE} {f : Str} {pos : Pos} (he : PE X e ta) (hb : attributeBase e f X.env (eval e X.env) = eval e X.env) (hK : X.K = K) : PE X (.Attribute e f pos) (tFld K ta f) := by
  subst hK
  exact pe_fld he hb
theorem ip_mk {g : Int → Int → Int} {i j : Int} {H : Hp} {N : V → Hp → Prop} (h : N (.int (g i j)) H) : ipI g (.int i) (.int j) H N := ⟨i, j, rfl, rfl, h⟩
/-- t[lo:hi] of a tuple, not the whole of it -/
inductive RSlTu : V → Option Int → Option Int → Hp → VK → Prop
  | tup {p : Addr} {xs : List V} {lo hi : Option Int} {H : Hp} {Q : VK} : H p = some (.tup xs) → ¬ (HT.sIx xs.length 0 lo = 0 ∧ HT.sIx xs.length xs.length hi = xs.length) → AlD (.tup (cutV xs lo hi)) H Q → RSlTu (.ref p) lo hi H Q
theorem sl_Tu {X : Cx} : SlR X (RSlTu) := by
  intro pins s σ H x v lo hi vl vu sl Q I rx hs h1 h2 h
  cases h with
  | tup hl hw q => exact sl_tup pins s σ H _ v _ _ vl vu sl Q I rx hs h1 h2 ⟨_, _, rfl, SqT.of hl, hw, q⟩
end Wk

set_option maxRecDepth 100000
set_option maxHeartbeats 4000000
/-! Odd things: data, own exceptions, lists and dicts that change (cells); what repr shows of them. -/
namespace Wk
open PySem PySem.Spec PyProof.Rows L2
/-- a short text is shown -/
def ShS (K : PySem.W.Frag) (H : Hp) (v : V) (n k : Nat) : Prop := ∃ t m, Shw K H v t m ∧ t.length ≤ n ∧ m ≤ k
def ShLs (K : PySem.W.Frag) (H : Hp) (vs : List V) (n k : Nat) : Prop := ∃ ts m, ShwL K H vs ts m ∧ ts.length = vs.length ∧ (∀ t ∈ ts, t.length ≤ n) ∧ m ≤ k
section
variable {K : PySem.W.Frag} {H H' D D' : Hp} {v : V} {n k n' k' : Nat}
theorem ShS.mono (h : ShS K H v n k) (x : Ex H H') : ShS K H' v n k := let ⟨t, m, a, b, c⟩ := h; ⟨t, m, a.mono x, b, c⟩
theorem ShS.le (h : ShS K H v n k) (a : n ≤ n') (b : k ≤ k') : ShS K H v n' k' := let ⟨t, m, c, d, e⟩ := h; ⟨t, m, c, Nat.le_trans d a, Nat.le_trans e b⟩
theorem ShLs.nil : ShLs K H [] n k := ⟨[], 0, .nil, rfl, all_n, Nat.zero_le _⟩
theorem ShLs.cons {vs : List V} (h : ShS K H v n k) (l : ShLs K H vs n k) : ShLs K H (v :: vs) n k := by
  obtain ⟨t, m, a, b, c⟩ := h
  obtain ⟨ts, m', d, e, f, g⟩ := l
  exact ⟨t :: ts, _, .cons a d, by rw [List.length_cons, e]; rfl, all_c b f, by omega⟩
theorem ShLs.of : ∀ {vs : List V}, (∀ v ∈ vs, ShS K H v n k) → ShLs K H vs n k
  | [], _ => .nil
  | v :: vs, h => .cons (h v (List.mem_cons_self ..)) (ShLs.of fun u hu => h u (List.mem_cons_of_mem _ hu))
theorem len_sum {ts : List Str} {n : Nat} (h : ∀ t ∈ ts, t.length ≤ n) : (ts.map (·.length)).sum ≤ n * ts.length := by
  induction ts with
  | nil => exact Nat.zero_le _
  | cons t ts ih =>
    have h1 := h t (List.mem_cons_self ..)
    have h2 := ih fun u hu => h u (List.mem_cons_of_mem _ hu)
    simp only [List.map_cons, List.sum_cons, List.length_cons, Nat.mul_succ]
    omega
theorem tupleText_len (ts : List Str) : (tupleText ts).length ≤ (ts.map (·.length)).sum + 2 * ts.length + 3 := by
  have jl := join_len (Str.ofString ", ") ts
  have e1 : (Str.ofString ", ").length = 2 := rfl
  have e2 : (Str.ofString "(").length = 1 := rfl
  have e3 : (Str.ofString ")").length = 1 := rfl
  have e4 : (Str.ofString ",)").length = 2 := rfl
  rw [e1] at jl
  match ts, jl with
  | [], jl => exact Nat.le_trans (show (tupleText []).length ≤ 3 by decide +kernel) (by omega)
  | [x], jl =>
    show ((Str.ofString "(") ++ x ++ (Str.ofString ",)")).length ≤ _
    rw [len_app, len_app, e2, e4]
    simp only [List.length_cons, List.length_nil, List.map_cons, List.map_nil, List.sum_cons, List.sum_nil]
    omega
  | x :: y :: r, jl =>
    show ((Str.ofString "(") ++ Str.join (Str.ofString ", ") (x :: y :: r) ++ (Str.ofString ")")).length ≤ _
    rw [len_app, len_app, e2, e3]
    omega
theorem dictText_len (ts : List Str) : (dictText ts).length ≤ (ts.map (·.length)).sum + 2 * ts.length + 3 := by
  have jl := join_len (Str.ofString ", ") ts
  have e1 : (Str.ofString ", ").length = 2 := rfl
  have e2 : (Str.ofString "{").length = 1 := rfl
  have e3 : (Str.ofString "}").length = 1 := rfl
  rw [e1] at jl
  show ((Str.ofString "{") ++ Str.join (Str.ofString ", ") ts ++ (Str.ofString "}")).length ≤ _
  rw [len_app, len_app, e2, e3]
  omega
theorem ShS.non : ShS K H .non 4 0 := ⟨_, _, .non, by decide +kernel, Nat.le_refl _⟩
theorem ShS.bl (b : Bool) : ShS K H (.bl b) 5 0 := by cases b <;> exact ⟨_, _, .bl _, by decide +kernel, Nat.le_refl _⟩
theorem ShS.int {i : Int} (h : i.natAbs < 10 ^ 30) : ShS K H (.int i) 31 0 := ⟨_, _, .int i (log2_small (by omega)), (tst h).1, Nat.le_refl _⟩
theorem ShS.str {z : Str} (h : Sg z) : ShS K H (.str z) (10 * z.length + 2) 0 := ⟨_, _, .str z, repr_len h, Nat.le_refl _⟩
theorem ShS.exc {a d C t1 : Addr} {z : Str} (e : H a = some (exq a C (some d) t1)) (e2 : H t1 = some (.tup [.str z])) (q : ExQ K C) (h : Sg z) (l : z.length ≤ 60) : ShS K H (.ref a) 800 1 := by
  refine ⟨_, _, .exc e e2 q, ?_, Nat.le_refl _⟩
  have h1 := q.hl
  have h2 := repr_len h
  rw [len_app, len_app, len_app]
  have e2 : (Str.ofString "(").length = 1 := rfl
  have e3 : (Str.ofString ")").length = 1 := rfl
  omega
theorem ShS.lst {a : Addr} {vs : List V} (e : H a = some (.lst vs)) (l : ShLs K H vs n k) : ShS K H (.ref a) (n * vs.length + 2 * vs.length + 3) (k + 1) := by
  obtain ⟨ts, m, a, b, c, d⟩ := l
  refine ⟨_, _, .lst e a, ?_, by omega⟩
  have h1 := len_sum c
  have h2 := PySem.listText_len_le ts
  rw [b] at h1 h2
  omega
theorem ShS.tup {a : Addr} {vs : List V} (e : H a = some (.tup vs)) (l : ShLs K H vs n k) : ShS K H (.ref a) (n * vs.length + 2 * vs.length + 3) (k + 1) := by
  obtain ⟨ts, m, a, b, c, d⟩ := l
  refine ⟨_, _, .tup e a, ?_, by omega⟩
  have h1 := len_sum c
  have h2 := tupleText_len ts
  rw [b] at h1 h2
  omega
/-- a small key -/
def SmK : Key → Prop
  | .inl i => i.natAbs < 10 ^ 30
  | .inr z => Sg z ∧ z.length ≤ 60
theorem SmK.kt {q : Key} (h : SmK q) : ∃ t, KT q t ∧ t.length ≤ 700 := by
  cases q with
  | inl i => exact ⟨_, .int i (log2_small (by have : i.natAbs < 10 ^ 30 := h; omega)), Nat.le_trans (tst (i := i) h).1 (by decide)⟩
  | inr z => exact ⟨_, .str z, by have := repr_len h.1; have := h.2; omega⟩
theorem shwK_of : ∀ {kvs : List (Key × V)}, (∀ p ∈ kvs, SmK p.1 ∧ ShS K H p.2 n k) → ∃ ts m, ShwK K H kvs ts m ∧ ts.length = kvs.length ∧ (∀ t ∈ ts, t.length ≤ n + 702) ∧ m ≤ k
  | [], _ => ⟨[], 0, .nil, rfl, all_n, Nat.zero_le _⟩
  | (q, v) :: kvs, h => by
    obtain ⟨ts, m, a, b, c, d⟩ := shwK_of (kvs := kvs) fun p hp => h p (List.mem_cons_of_mem _ hp)
    obtain ⟨h1, t, m1, h2, h3, h4⟩ := h _ (List.mem_cons_self ..)
    obtain ⟨kt, h5, h6⟩ := h1.kt
    refine ⟨_ :: ts, _, .cons h5 h2 a, by rw [List.length_cons, b]; rfl, all_c ?_ c, by omega⟩
    rw [len_app, len_app]
    have e2 : (Str.ofString ": ").length = 2 := rfl
    omega
theorem ShS.dict {a : Addr} {kvs : List (Key × V)} (e : H a = some (.dK kvs)) (l : ∀ p ∈ kvs, SmK p.1 ∧ ShS K H p.2 n k) : ShS K H (.ref a) ((n + 702) * kvs.length + 2 * kvs.length + 3) (k + 1) := by
  obtain ⟨ts, m, a, b, c, d⟩ := shwK_of l
  refine ⟨_, _, .dict e a, ?_, by omega⟩
  have h1 := len_sum c
  have h2 := dictText_len ts
  rw [b] at h1 h2
  omega
/-! ### data and cells in one heap -/
/-- the data, and the cells OC over it -/
def uni (OC : Cells) (D : Hp) : Hp := fun a => match OC.find? fun c => c.1 == a with
  | some c => some c.2
  | none => D a
theorem uni_ex {OC : Cells} (x : Ex D D') : Ex (uni OC D) (uni OC D') := fun a o e => by
  unfold uni at e ⊢
  split at e
  · exact e
  · exact x _ _ e
theorem HI.uni {R OC : Cells} (hI : HI H R D) (s : ∀ c ∈ OC, c ∈ R) : Ex (uni OC D) H := fun a o e => by
  unfold Wk.uni at e
  split at e
  · rename_i c hc
    have h1 := List.mem_of_find?_eq_some hc
    have h2 : (c.1 == a) = true := by simpa using List.find?_some hc
    have h3 : c.1 = a := by simpa using h2
    have g := hI.get (a := c.1) (o := c.2) (s _ h1)
    rw [h3] at g
    cases e
    exact g
  · exact hI.sub _ _ e
theorem HI.dn {R OC : Cells} (hI : HI H R D) (s : ∀ c ∈ OC, c ∈ R) : Ex D (Wk.uni OC D) := fun a o e => by
  unfold Wk.uni
  split
  · rename_i c hc
    have h1 := List.mem_of_find?_eq_some hc
    have h2 : (c.1 == a) = true := by simpa using List.find?_some hc
    have h3 : c.1 = a := by simpa using h2
    have g := (hI.cell c (s _ h1)).2
    rw [h3, e] at g
    cases g
  · exact e
theorem uni_at {OC : Cells} {a : Addr} {o : HO} (nd : (OC.map (·.1)).Nodup) (m : (a, o) ∈ OC) : uni OC D a = some o := by
  unfold uni
  have : OC.find? (fun c => c.1 == a) = some (a, o) := by
    induction OC with
    | nil => cases m
    | cons c OC ih =>
      rw [List.map_cons] at nd
      obtain ⟨n1, n2⟩ := List.nodup_cons.mp nd
      rcases List.mem_cons.mp m with e | m
      · subst e
        simp
      · have ne : c.1 ≠ a := fun z => n1 (z ▸ List.mem_map.mpr ⟨_, m, rfl⟩)
        rw [List.find?_cons_of_neg (by simpa using ne)]
        exact ih n2 m
  rw [this]
/-! ### odd cells, odd things -/
/-- a flat small value -/
inductive Fl : V → Prop
  | non : Fl .non
  | bl (b : Bool) : Fl (.bl b)
  | int {i : Int} (h : i.natAbs < 10 ^ 30) : Fl (.int i)
  | str {z : Str} (h : Sg z) (l : z.length ≤ 60) : Fl (.str z)
theorem Fl.sh (h : Fl v) : ShS K H v 700 0 := by
  cases h with
  | non => exact ShS.non.le (by decide) (Nat.le_refl _)
  | bl b => exact (ShS.bl b).le (by decide) (Nat.le_refl _)
  | int h => exact (ShS.int h).le (by decide) (Nat.le_refl _)
  | str h l => exact (ShS.str h).le (by omega) (Nat.le_refl _)
/-- an odd cell: a list or a dict of at most m flat values -/
inductive OkO (m : Nat) : HO → Prop
  | lst {xs : List V} (h : ∀ x ∈ xs, Fl x) (l : xs.length ≤ m) : OkO m (.lst xs)
  | dict {kvs : List (Key × V)} (h : ∀ p ∈ kvs, SmK p.1 ∧ Fl p.2) (l : kvs.length ≤ m) : OkO m (.dK kvs)
theorem OkO.le {m m' : Nat} {o : HO} (h : OkO m o) (l : m ≤ m') : OkO m' o := by
  cases h with
  | lst a b => exact .lst a (Nat.le_trans b l)
  | dict a b => exact .dict a (Nat.le_trans b l)
theorem OkO.ld {m : Nat} {o : HO} (h : OkO m o) : LD o := by
  cases h with
  | lst a b => exact .inl ⟨_, rfl⟩
  | dict a b => exact .inr ⟨_, rfl⟩
theorem OkO.sh {m : Nat} {o : HO} {a : Addr} (h : OkO m o) (hm : m ≤ 20) (e : H a = some o) : ShS K H (.ref a) 30000 1 := by
  cases h with
  | lst x l => exact (ShS.lst (n := 700) (k := 0) e (ShLs.of fun v hv => (x v hv).sh)).le (by have := Nat.mul_le_mul_left 700 (Nat.le_trans l hm); omega) (Nat.le_refl _)
  | dict x l => exact (ShS.dict (n := 700) (k := 0) e fun p hp => ⟨(x p hp).1, (x p hp).2.sh⟩).le (by have := Nat.mul_le_mul_left 1402 (Nat.le_trans l hm); omega) (Nat.le_refl _)
/-- a thing that is data, or one of the odd cells; P of its type -/
inductive Odt (K : PySem.W.Frag) (P : Value → Prop) (as : List Addr) (D : Hp) : V → Prop
  | dat {v : V} {k : Knd} {t : Value} (kn : Kn K D v k) (ty : Ty K D v t) (p : P t) (s : ShS K D v 30000 20) (z : ∀ z, v = .str z → TxtOk z) (nl : k.is "list" = false) (nd : k.is "dict" = false) : Odt K P as D v
  | cell {a : Addr} (m : a ∈ as) : Odt K P as D (.ref a)
theorem Odt.mono {P : Value → Prop} {as : List Addr} (h : Odt K P as D v) (x : Ex D D') : Odt K P as D' v := by
  cases h with
  | dat kn ty p s z a b => exact .dat (kn.mono x) (ty.mono x) p (s.mono x) z a b
  | cell m => exact .cell m
theorem Odt.sub {P : Value → Prop} {as bs : List Addr} (h : Odt K P as D v) (x : ∀ a ∈ as, a ∈ bs) : Odt K P bs D v := by
  cases h with
  | dat kn ty p s z a b => exact .dat kn ty p s z a b
  | cell m => exact .cell (x _ m)
theorem Odt.imp {P P' : Value → Prop} {as : List Addr} (h : Odt K P as D v) (x : ∀ t, P t → P' t) : Odt K P' as D v := by
  cases h with
  | dat kn ty p s z a b => exact .dat kn ty (x _ p) s z a b
  | cell m => exact .cell m
section
variable {P : Value → Prop} {OC R : Cells} {m : Nat}
theorem mem_fst {OC : Cells} {a : Addr} (h : a ∈ OC.map (·.1)) : ∃ o, (a, o) ∈ OC := by
  obtain ⟨c, hc, rfl⟩ := List.mem_map.mp h
  exact ⟨c.2, hc⟩
theorem Odt.mt (h : Odt K P (OC.map (·.1)) D v) (ok : ∀ c ∈ OC, OkO m c.2) (s : ∀ c ∈ OC, c ∈ R) : Mt K R D v := by
  cases h with
  | dat kn ty p s z a b => exact Th.m ⟨⟨_, kn⟩, z⟩
  | cell hm =>
    obtain ⟨o, hc⟩ := mem_fst hm
    exact .inr ⟨_, o, rfl, s _ hc, (ok _ hc).ld⟩
theorem Odt.ty (h : Odt K P (OC.map (·.1)) D v) (ok : ∀ c ∈ OC, OkO m c.2) (s : ∀ c ∈ OC, c ∈ R) (p1 : P (.type "list")) (p2 : P (.type "dict")) : ∃ t, TyC K R D v t ∧ P t := by
  cases h with
  | dat kn ty p s z a b => exact ⟨_, .inl ty, p⟩
  | cell hm =>
    obtain ⟨o, hc⟩ := mem_fst hm
    have hs := s _ hc
    have l : LD o := (ok _ hc).ld
    rcases l with ⟨xs, rfl⟩ | ⟨kvs, rfl⟩
    · exact ⟨_, .inr (.inl ⟨_, xs, rfl, hs, rfl⟩), p1⟩
    · exact ⟨_, .inr (.inr ⟨_, kvs, rfl, hs, rfl⟩), p2⟩
theorem HI.ndS (hI : HI H R D) (sl : OC.Sublist R) : (OC.map (·.1)).Nodup := (sl.map (·.1)).nodup hI.nd
theorem Odt.sh (h : Odt K P (OC.map (·.1)) D v) (hI : HI H R D) (ok : ∀ c ∈ OC, OkO m c.2) (sl : OC.Sublist R) (hm : m ≤ 20) : ShS K (uni OC D) v 30000 20 := by
  have s : ∀ c ∈ OC, c ∈ R := fun c hc => sl.subset hc
  cases h with
  | dat kn ty p sh z a b => exact sh.mono (hI.dn s)
  | cell hm2 =>
    obtain ⟨o, hc⟩ := mem_fst hm2
    exact ((ok _ hc).sh hm (uni_at (hI.ndS sl) hc)).le (Nat.le_refl _) (by decide)
/-- the cell of an odd thing, its place in the list of cells -/
theorem mem_cut {OC : Cells} {a : Addr} {o : HO} (h : (a, o) ∈ OC) : ∃ A B, OC = A ++ (a, o) :: B := List.append_of_mem h
end
end
/-- a cell in the midst is changed -/
theorem HI.setM {H D : Hp} {A B : Cells} {a : Addr} {o u : HO} (h : HI H (A ++ (a, o) :: B) D) : HI (upd H a u) (A ++ (a, u) :: B) D := by
  have h1 := h.perm (List.perm_middle (l₁ := A) (l₂ := B) (a := (a, o)))
  exact (h1.set (u := u)).perm List.perm_middle.symm
theorem HI.front {H D : Hp} {A B : Cells} {c : Addr × HO} (h : HI H (A ++ c :: B) D) : HI H (c :: (A ++ B)) D := h.perm List.perm_middle
theorem HI.back {H D : Hp} {A B : Cells} {c : Addr × HO} (h : HI H (c :: (A ++ B)) D) : HI H (A ++ c :: B) D := h.perm List.perm_middle.symm
theorem HI.up4 {H D : Hp} {R : Cells} {x y z u v : Addr × HO} (h : HI H (x :: y :: z :: u :: v :: R) D) : HI H (v :: x :: y :: z :: u :: R) D := HI.front (A := [x, y, z, u]) h
/-- one more item, one more key -/
theorem OkO.app {m : Nat} {xs : List V} {v : V} (h : OkO m (.lst xs)) (f : Fl v) : OkO (m + 1) (.lst (xs ++ [v])) := by
  cases h with
  | lst a b =>
    refine .lst (fun x hx => ?_) (by rw [List.length_append]; exact Nat.succ_le_succ b)
    rcases List.mem_append.mp hx with h | h
    · exact a x h
    · rw [List.mem_singleton.mp h]
      exact f
theorem OkO.put {m : Nat} {kvs : List (Key × V)} {q : Key} {v : V} (h : OkO m (.dK kvs)) (k : SmK q) (f : Fl v) : OkO (m + 1) (.dK (putK kvs q v)) := by
  cases h with
  | dict a b =>
    refine .dict (fun p hp => ?_) (Nat.le_trans (length_putK kvs q v) (Nat.succ_le_succ b))
    unfold putK at hp
    split at hp
    · obtain ⟨p0, h0, e⟩ := List.mem_map.mp hp
      by_cases g : p0.1 = q
      · rw [if_pos g] at e
        rw [← e]
        exact ⟨(a p0 h0).1, f⟩
      · rw [if_neg g] at e
        rw [← e]
        exact a p0 h0
    · rcases List.mem_append.mp hp with h | h
      · exact a p h
      · rw [List.mem_singleton.mp h]
        exact ⟨k, f⟩
/-- a display that stays a cell -/
def tDispM (trs : List (TE × TE)) : TE := tDisp trs
theorem dispM {X : Cx} {e : Expr} {trs : List (TE × TE)} (h : PE X e (tDisp trs)) : PE X e (tDispM trs) := h
theorem se_dispM {σ : L2.St} {H : Hp} {Q : VK} {D : Hp} {R : Cells} {trs : List (TE × TE)} (hi : HI H R D) (h : ∀ p H1, HI H1 ((p, .dK []) :: R) D → tPairs trs σ H1 fun ps H2 => DispP p ps H2 Q) : tDispM trs σ H Q := fun p hp => h p _ (hi.new hp)
theorem disp_nowM {H : Hp} {Q : VK} {p : Addr} {ps : List (V × V)} {kvs : List (Key × V)} {R : Cells} {D : Hp} (hi : HI H ((p, .dK []) :: R) D) (e : keysOf ps = some kvs) (hl : kvs.length ≤ 15) (k : ∀ H', HI H' ((p, .dK (mergeK [] kvs)) :: R) D → Q (.ref p) H') : DispP p ps H Q :=
  ⟨hi.get (List.mem_cons_self ..), kvs, keysOf_ok e, hl, k _ (hi.set (u := .dK (mergeK [] kvs)))⟩
/-- two tuples that say the same: a word and an odd thing, or data -/
def TwoS (K : PySem.W.Frag) (P : Value → Prop) (as : List Addr) (D : Hp) (p1 p2 : Addr) : Prop := (∃ (w : Str) (v : V), D p1 = some (.tup [.str w, v]) ∧ D p2 = some (.tup [.str w, v]) ∧ Sg w ∧ w.length ≤ 60 ∧ Odt K P as D v) ∨
  ∃ t n, Shw K D (.ref p1) t n ∧ Shw K D (.ref p2) t n ∧ t.length ≤ 100000 ∧ n ≤ 40
section
variable {K : PySem.W.Frag} {H H' D D' : Hp} {P : Value → Prop} {OC R : Cells} {m : Nat} {p1 p2 : Addr} {as : List Addr}
theorem TwoS.mono (h : TwoS K P as D p1 p2) (x : Ex D D') : TwoS K P as D' p1 p2 := by
  rcases h with ⟨w, v, a, b, c, d, e⟩ | ⟨t, n, a, b, c, d⟩
  · exact .inl ⟨w, v, x _ _ a, x _ _ b, c, d, e.mono x⟩
  · exact .inr ⟨t, n, a.mono x, b.mono x, c, d⟩
theorem TwoS.sh (h : TwoS K P (OC.map (·.1)) D p1 p2) (hI : HI H R D) (ok : ∀ c ∈ OC, OkO m c.2) (sl : OC.Sublist R) (hm : m ≤ 20) : ∃ t n, Shw K (uni OC D) (.ref p1) t n ∧ Shw K (uni OC D) (.ref p2) t n ∧ t.length ≤ 100000 ∧ n ≤ 40 := by
  have x := hI.dn (OC := OC) fun c hc => sl.subset hc
  rcases h with ⟨w, v, a, b, c, d, e⟩ | ⟨t, n, a, b, c, d⟩
  · obtain ⟨t, n, s, l, g⟩ := e.sh hI ok sl hm
    refine ⟨_, _, .tup (x _ _ a) (.cons (.str w) (.cons s .nil)), .tup (x _ _ b) (.cons (.str w) (.cons s .nil)), ?_, ?_⟩
    · have h1 := tupleText_len [reprText w, t]
      have h2 := repr_len c
      simp only [List.map_cons, List.map_nil, List.sum_cons, List.sum_nil, List.length_cons, List.length_nil] at h1
      omega
    · omega
  · exact ⟨t, n, a.mono x, b.mono x, c, d⟩
end
theorem Odt.of_non {K : PySem.W.Frag} {P : Value → Prop} {as : List Addr} {D : Hp} (p : P (.type "NoneType")) : Odt K P as D .non := .dat .non (.b .non (by decide +kernel) rfl) p (ShS.non.le (by decide) (by decide)) (fun z e => nomatch e) rfl rfl
theorem Odt.of_bl {K : PySem.W.Frag} {P : Value → Prop} {as : List Addr} {D : Hp} (b : Bool) (p : P (.type "bool")) : Odt K P as D (.bl b) := .dat (.bl b) (.b (.bl b) (by decide +kernel) rfl) p ((ShS.bl b).le (by decide) (by decide)) (fun z e => nomatch e) rfl rfl
theorem Odt.of_int {K : PySem.W.Frag} {P : Value → Prop} {as : List Addr} {D : Hp} {i : Int} (h : i.natAbs < 10 ^ 30) (p : P (.type "int")) : Odt K P as D (.int i) := .dat (.int i) (.b (.int i) (by decide +kernel) rfl) p ((ShS.int h).le (by decide) (by decide)) (fun z e => nomatch e) rfl rfl
theorem Odt.of_str {K : PySem.W.Frag} {P : Value → Prop} {as : List Addr} {D : Hp} {z : Str} (h : Sg z) (l : z.length ≤ 1000) (p : P (.type "str")) : Odt K P as D (.str z) := .dat (.str z) (.b (.str z) (by decide +kernel) rfl) p ((ShS.str h).le (by omega) (by decide)) (fun y e => by cases e; exact ⟨l, h⟩) rfl rfl
theorem Odt.of_tup {K : PySem.W.Frag} {P : Value → Prop} {as : List Addr} {D : Hp} {a : Addr} {xs : List V} (e : D a = some (.tup xs)) (l : ∀ v ∈ xs, ShS K D v 1000 18) (h : xs.length ≤ 20) (p : P (.type "tuple")) : Odt K P as D (.ref a) :=
  .dat (.tup e) (.b (.tup e) (by decide +kernel) rfl) p ((ShS.tup (n := 1000) (k := 18) e (ShLs.of l)).le (by have := Nat.mul_le_mul_left 1000 h; omega) (by decide)) (fun z e => nomatch e) rfl rfl
theorem Odt.of_exc {K : PySem.W.Frag} {P : Value → Prop} {as : List Addr} {D : Hp} {a d C t1 : Addr} {z : Str} {fs : List (Str × V)} (e : D a = some (exq a C (some d) t1)) (ed : D d = some (exd d fs)) (e2 : D t1 = some (.tup [.str z])) (q : ExQ K C) (h : Sg z) (l : z.length ≤ 60) (c : ExcC K C) (s : Six K C) (p : P (.ref C)) : Odt K P as D (.ref a) :=
  .dat (.excq e ed c s) (.o (.excq e ed c)) p ((ShS.exc e e2 q h l).le (by decide) (by decide)) (fun z e => nomatch e) rfl rfl
/-- the list at pp, a cell or data -/
def PAt (R : Cells) (D : Hp) (pp : Addr) (xs : List V) : Prop := ((pp, HO.lst xs) : Addr × HO) ∈ R ∨ D pp = some (.lst xs)
theorem PAt.h {R : Cells} {D H : Hp} {pp : Addr} {xs : List V} (m : PAt R D pp xs) (hI : HI H R D) : H pp = some (.lst xs) := m.elim hI.get hI.dat
theorem st_par3 {i j l : Nat} {t : TA} {D : Ends} {σ : L2.St} {H : Hp} (h : t σ H fun vs H1 => ∃ u v w, vs = [u, v, w] ∧ D.nx (((σ.set i (some u)).set j (some v)).set l (some w)) H1) : tPar3 i j l t D σ H := h
theorem par3_mk {x y z : V} {P : V → V → V → Prop} (h : P x y z) : ∃ u v w, [x, y, z] = [u, v, w] ∧ P u v w := ⟨x, y, z, rfl, h⟩
end Wk

set_option maxRecDepth 100000
set_option maxHeartbeats 4000000
/-! Own exceptions over a built-in one, with a field of any name, made by places or by names, their args told; those without an __init__ of their own; what isinstance, str and an attribute say of them. -/
namespace Wk
namespace XG
open PySem PySem.Spec PyProof.Rows L2
open Builtin Builtin.ObjectAttr PySem.HandSPX
/-- a built-in exception class -/
structure BX where
  B : String
  nw : String
  ini : String
  bm : List Value
structure BX.Ok (b : BX) : Prop where
  fb : ExcBaseFacts b.B b.nw b.ini b.bm
  sf : StoreFacts b.B b.bm "object.__setattr__" "object"
abbrev ve : BX := ⟨"ValueError", "ValueError.__new__", "ValueError.__init__", veTail⟩
abbrev le : BX := ⟨"LookupError", "LookupError.__new__", "LookupError.__init__", LE.tailL⟩
theorem ve_ok : ve.Ok := ⟨F.excBase_ValueError, F.store_ValueError⟩
theorem le_ok : le.Ok := ⟨F.excBase_LookupError, F.store_LookupError⟩
structure OexG (b : BX) (f : Str) (K : PySem.W.Frag) (C : Addr) : Prop where
  ok : b.Ok
  init : PySem.W.excInitIn K C b.bm b.nw = true
  over : PySem.W.excOver K C b.bm = true
  tk : PySem.W.takerIn K C f = some none
  hd : PySem.W.hasDictIn K C = true
  sa : PySem.W.findIn K (.ref C) "__setattr__" = some (some (.builtin "object.__setattr__"))
  kC : PySem.W.keepIn K (.ref C) = true
section
variable {prog : Program} {w : World} {A : Around} {R : Result → Shared → Prop} {hp : Heap} {g : Array GenState} {d : Drawn} {t : Nat} {os : OsState} {b : BX} {f : Str}
/-- self.f = v, the first store -/
theorem osaG {K : PySem.W.Frag} {tk : Tok} {v : Value} {x C : Addr} {fv : Array Value} (T : OexG b f K C)
    (X : K.In hp) (hx : hp.get? x = some { cls := .ref C, data := .fields fv })
    (hq : ∀ h' tk' dx, (∀ b o, b ≠ x → hp.get? b = some o → h'.get? b = some o) → hp.objs.size ≤ dx → dx ≠ x → h'.get? x = some { cls := .ref C, dict := some dx, data := .fields fv } →
      h'.Ns1 dx (fun y => if y = f then some v else none) → R (.ok (.ret .none)) ⟨h', g, d, tk', os⟩) :
    codeAny (model prog w) A (.call (.builtin "object.__setattr__") ⟨[.ref x, .str f tk, v], []⟩) R ⟨hp, g, d, t, os⟩ := by
  have I : PySem.W.InstAt hp x { cls := .ref C, data := .fields fv } C none := ⟨hx, rfl, rfl, trivial⟩
  refine PySem.W.osa_openX (s := ⟨hp, g, d, t, os⟩) T.ok.sf X I T.over T.tk (fun b => ?_)
  obtain ⟨cd, hc, hd'⟩ := PySem.W.any_some T.hd
  have hcls : PySem.W.Looks (model prog w) hp (classData C) cd := PySem.W.looks_clsIn X hc
  have hxs : x ≠ hp.objs.size := Nat.ne_of_lt (Heap.lt_size hx)
  obtain ⟨nm, bs, mro, ns, qn, hd, sn, sb, ab, col, del⟩ := cd
  have hd2 : hd = true := hd'
  subst hd2
  show wpAny _ _ (storeInOwnDict (.ref x) (.ref C) (.str f tk) f v b) _ _ _
  unfold storeInOwnDict ownDictForStores
  repeat (first | with_reducible refine store_in_new ?_ ?_ | with_reducible refine wpAny_loadPart_at hx ?_ | with_reducible refine hcls.at ?_ | wp_step)
  · exact ⟨_, #[], _, (Heap.get?_update_ne _ _ _ _ hxs.symm).trans (Heap.get?_push_at rfl rfl), rfl, fun e he => absurd he (by simp), fun _ => rfl⟩
  · intro h' tk' hn' hs
    have hx1 : (hp.push { cls := .type "dict", data := .dict #[] }).get? x = some { cls := .ref C, data := .fields fv } := Heap.get?_push_of_some _ hx
    refine hq h' tk' hp.objs.size (fun b o hb ho => ?_) (Nat.le_refl _) hxs.symm ?_ hn'
    · exact (hs.2 b (Nat.ne_of_lt (Heap.lt_size ho))).trans ((Heap.get?_update_ne _ _ _ _ hb).trans (Heap.get?_push_of_some _ ho))
    · exact (hs.2 x hxs).trans (Heap.get?_update_self _ hx1 rfl)
end
section
variable {X : Cx} {pins : List (Addr × Obj)} {σ : L2.St} {H : Hp} {s : Shared} {a C dx t1 : Addr} {f : Str} {y : V} {u : Value} {fs : List (Str × V)} {E : Value → Shared → Prop} {A : Around} {b : BX}
/-- self.f = y, the first one -/
theorem ost_newG {Q : Unit → Shared → Prop} (T : OexG b f X.K C) (I : Inv X pins σ H s) (e : H a = some (exq a C none t1)) (ry : RelV y u)
    (h : ∀ dx s', H dx = none → dx ≠ a → Inv X pins σ (upd (upd H dx (exd dx [(f, y)])) a (exq a C (some dx) t1)) s' → Q () s') : wpAny (model X.prog X.w) A (setAttr (.ref a) f u) Q E s := by
  have ho := exq_at I.hok e
  obtain ⟨hp, g, d, t, os⟩ := s
  refine PySem.W.set_plain I.kIn (ox := { cls := .ref C, dict := none, data := .fields #[.ref t1, .none, .none, .none, .bool false, .none] }) (od := none) ⟨ho, rfl, rfl, trivial⟩ T.sa ?_
  refine osaG T I.kIn ho (fun h' tk' dx k dn dne hx hn => ?_)
  have hnd : H dx = none := I.hok.fresh dn
  have nd : ∀ {b : Addr} {o : Obj}, hp.get? b = some o → b ≠ dx := fun {b o} q => Nat.ne_of_lt (Nat.lt_of_lt_of_le (Heap.lt_size q) dn)
  have na : ∀ {b : Addr}, H b = none → b ≠ a := fun {b} n z => by
    rw [z, e] at n
    cases n
  have Un1 : Un X.fs [] H (upd (upd H dx (exd dx [(f, y)])) a (exq a C (some dx) t1)) hp h' := {
    keep := fun b o q n _ _ => k b o (na n) q
    slot := fun b o q n _ _ => ⟨o.slots, k b o (na n) q⟩
    free := fun b o q n _ => by rw [upd_ne (na n), upd_ne (nd q)]; exact n
    there := fun b o q _ => by
      by_cases hb : b = a
      · exact ⟨_, by rw [hb]; exact hx⟩
      · exact ⟨o, k b o hb q⟩
    tups := fun b xs q => by rw [upd_ne (at_ne e q exq_tup), upd_ne (ne_of_none q hnd)]; exact q
    frzs := fun b o v q => by rw [upd_ne (at_ne e q exq_frz), upd_ne (ne_of_none q hnd)]; exact q
    tbls := fun b ps q => ⟨#[], by rw [upd_ne (at_ne e q exq_tbl), upd_ne (ne_of_none q hnd), q]; simp⟩ }
  refine h dx _ hnd dne (I.un (t' := tk') Un1 fun b o q => ?_)
  by_cases hb : b = a
  · subst hb
    rw [upd_same] at q
    cases q
    exact exq_ok hx
  · rw [upd_ne hb] at q
    by_cases hd : b = dx
    · subst hd
      rw [upd_same] at q
      cases q
      exact exd_ok hn (relO_put (fs := []) ry fun g => True.intro)
    · rw [upd_ne hd] at q
      exact (I.hok b o q).stay (fun c v hc z => k c v (by
          rcases hc with hc | hc
          · rw [hc]
            exact hb
          · exact at_ne e hc exq_own) z)
        (fun c hc => by rw [upd_ne (at_ne e hc exq_own), upd_ne (ne_of_none hc hnd)]; exact hc) (fun c xs hc => by rw [upd_ne (at_ne e hc exq_tup), upd_ne (ne_of_none hc hnd)]; exact hc)
/-- the base's __init__: the args are told -/
theorem oinit_okG {us : List Value} {ws : List V} {Q : Value → Shared → Prop} (T : OexG b f X.K C) (I : Inv X pins σ H s) (e : H a = some (exo a C none)) (rv : Vals ws us) (hl : us.length ≤ sizeLine)
    (h : ∀ t1 s', H t1 = none → t1 ≠ a → Inv X pins σ (upd (upd H t1 (.tup ws)) a (exq a C none t1)) s' → Q .none s') :
    wpAny (model X.prog X.w) A (call (.builtin b.ini) (.ref a :: us)) Q E s := by
  obtain ⟨nm, N, qn, bs, bm, hdct, sn, sub, ab, col, dd, k0, k1, k2, k3, k5, hC, hT⟩ := PySem.W.excInit_of I.kIn T.init
  obtain ⟨t1, ho⟩ := exo_at I.hok e
  obtain ⟨hp, g, d, t, os⟩ := s
  refine wpAny_call (init_baseQ T.ok.fb hT hC ho hl fun h' k hx => ?_)
  have hn : H hp.objs.size = none := I.hok.fresh (Nat.le_refl _)
  have hna : hp.objs.size ≠ a := fun z => by
    rw [z, e] at hn
    cases hn
  have J1 := I.laid (t' := t) (a := hp.objs.size) (o := .tup ws) (h' := hp.push (PySem.W.kdv_tup us)) (fun b u e => Heap.get?_push_of_some _ e) (Nat.le_refl _) ⟨by rw [rv.length]; exact hl, us, rv, ⟨_, Heap.get?_push_size _ rfl, rfl, _, rfl⟩⟩
  have e1 : upd H hp.objs.size (.tup ws) a = some (exo a C none) := by rw [upd_ne (Ne.symm hna)]; exact e
  exact h _ _ hn hna (J1.write (t' := t) (x := a) (e := a) (o := exq a C none hp.objs.size) (by rw [e1]; exact True.intro) (.inl rfl) k ⟨_, hx⟩ (exq_ok hx))
end
def tVeG (b : BX) (f : Str) (K : PySem.W.Frag) (ta : TA) : TE := fun σ H Q => ta σ H fun vs H1 => ∃ (a C : Addr) (ws : List V), vs = .ref a :: ws ∧ ws.length ≤ 1000 ∧ OexG b f K C ∧ H1 a = some (exo a C none) ∧ ∀ t1, H1 t1 = none → t1 ≠ a → Q .non (upd (upd H1 t1 (.tup ws)) a (exq a C none t1))
def tOstG (b : BX) (f : Str) (K : PySem.W.Frag) (to te : TE) : TS := fun D σ H => te σ H fun y H1 => to σ H1 fun x H2 => ∃ a C t1 : Addr, x = .ref a ∧ OexG b f K C ∧ H2 a = some (exq a C none t1) ∧ ∀ dx, H2 dx = none → dx ≠ a → D.nx σ (upd (upd H2 dx (exd dx [(f, y)])) a (exq a C (some dx) t1))
/-- the base class at B -/
structure ExBG (b : BX) (K : PySem.W.Frag) (mg : Str → Option Value) (n : Str) (B : Addr) : Prop where
  g : mg n = some (.ref B)
  rd : PySem.W.readsIn K B (.type "type") = true
  sp : PySem.W.specialIn K (.ref B) "__getattribute__" = some (some (.builtin "type.__getattribute__"))
  vV : PySem.W.findCls K (.ref B) (.type "type") "__init__" = some (.val (.builtin b.ini))
  init : PySem.W.excInitIn K B b.bm b.nw = true
  ok : b.Ok
  kC : PySem.W.keepIn K (.ref B) = true
  iC : PySem.W.findIn K (.ref B) "__init__" = some (some (.builtin b.ini))
  st : PySem.W.findIn K (.ref B) "__str__" = some (some (.builtin "BaseException.__str__"))
  E : ExcC K B
/-- an own exception class at C, its __init__ at fI -/
structure ExG (b : BX) (f : Str) (K : PySem.W.Frag) (mg : Str → Option Value) (n : Str) (C fI : Addr) : Prop where
  g : mg n = some (.ref C)
  T : OexG b f K C
  E : ExcC K C
  iC : PySem.W.findIn K (.ref C) "__init__" = some (some (.ref fI))
  tI : PySem.W.typeIn K (.ref fI) = some (.type "function")
  no : PySem.W.findIn K (.ref C) f = some none
section
variable {X : Cx} {o e : Expr} {es : List Expr} {to te : TE} {ta : TA} {f : Str} {p p' p1 p2 pos : Pos} {C fI B : Addr} {n x : Str} {b : BX}
theorem pe_binitG {pl : Sem Bool} (T : ExBG b X.K X.mg n B) (hg : Gl X n) (ha : PA X (e :: es) ta) (hdb : (n == ("__debug__" : Str)) = false := by decide)
    (hc : eval (.Call (.Attribute (.Name n p1) "__init__" p2) (e :: es) [] pos) X.env = (do
      let ov ← eval (.Name n p1) X.env
      standAt p2.atName
      let (f, first) ← holding [ov] (getMethod ov "__init__" pl)
      callWith pos f first (backTo pos (starEach (e :: es) X.env)) (backToKw pos (keywordEach [] X.env))) := by rfl)
    (he : starEach (e :: es) X.env = (false, eval e X.env) :: starEach es X.env := by rfl) (hpl : (backTo pos (starEach es X.env)).any (·.1) = false := by rfl) (hb : PySem.W.handedIn (.builtin b.ini) = true := by decide +kernel) :
    PE X (.Call (.Attribute (.Name n p1) "__init__" p2) (e :: es) [] pos) (tVeG b f X.K ta) := by
  refine ⟨fun pins s σ H Q I h => ?_⟩
  refine PySem.W.methodCall_KW (ld_glob I hg T.g ?_ hdb) hc
  refine PySem.W.method_cls I.kIn T.sp ?_
  refine PySem.W.cls_value I.kIn T.rd T.vV hb ?_
  show wpAny _ _ (callWith pos (Value.builtin b.ini) [] (backTo pos (starEach (e :: es) X.env)) []) _ _ _
  refine PyProof.Rows.callWith_method1 (thn (ha.run pos pins _ σ H _ (I.tok _) h) fun us s1 ⟨vs, H1, I1, r1, a, C, ws, ev, hl, T, ea, q⟩ => ?_) he hpl
  subst ev
  cases r1 with
  | @cons _ u0 _ ur ra rw' =>
    obtain rfl : u0 = Value.ref a := ra
    have hlen : ur.length ≤ sizeLine := by
      rw [← Paired.length rw', sizeLine_eq]
      omega
    exact oinit_okG T I1 ea rw' hlen fun t1 s' n ne J => ⟨.non, _, J, rfl, q t1 n ne⟩
theorem ps_ostG (ho : PE X o to) (he : PE X e te) (hs : swapsWith e (some (.Attribute o f p')) pos.line X.env = pure false := by rfl) : PS X (.Assign [.Attribute o f p'] e pos) (tOstG b f X.K to te) := by
  refine ⟨fun pins s σ H D I h => ?_⟩
  refine plainObj_wpAny_Assign_Attribute (thn (he.run pins s σ H _ I h) fun v s1 ⟨y, H1, I1, r1, q1⟩ => thn (ho.run pins s1 σ H1 _ I1 q1) fun u s2 ⟨x, H2, I2, r2, a, C, t1, ex, T, ea, q⟩ => ?_) hs
  subst ex
  obtain rfl : u = Value.ref a := r2
  exact ost_newG T I2 ea r1 fun dx s' n ne J => ⟨σ, _, J, q dx n ne⟩
end
/-- what is made: the args, the dict, the exception -/
def mkdG (a C d t1 : Addr) (f z : Str) (v : V) (H : Hp) : Hp := upd (upd (upd H t1 (.tup [.str z])) d (exd d [(f, v)])) a (exq a C (some d) t1)
/-- __init__(self, f) -/
def spInitG (b : BX) (K : PySem.W.Frag) (C : Addr) (f z : Str) : Sp := fun vs H Q _ => ∃ (a : Addr) (v : V), vs = [.ref a, v] ∧ OexG b f K C ∧ H a = some (exo a C none) ∧
  ∀ t1 d, H t1 = none → t1 ≠ a → H d = none → d ≠ a → d ≠ t1 → Q .non (mkdG a C d t1 f z v H)
theorem spInitG_len {b : BX} {K : PySem.W.Frag} {C : Addr} {f z : Str} {vs : List V} {H : Hp} {Q : VK} {E : XK} (h : spInitG b K C f z vs H Q E) : vs.length = 2 := by
  obtain ⟨a, v, rfl, _⟩ := h
  rfl
theorem init_plainG {b : BX} {K : PySem.W.Frag} {C : Addr} {f z : Str} {vs : List V} {H : Hp} {Q : VK} {E : XK} (h : spInitG b K C f z vs H Q E) :
    tSeq (tDrop (tVeG b f K (tCons (tVar 0) (tCons (tC (.str z)) tNil)))) (tOstG b f K (tVar 0) (tVar 1)) { nx := fun _ H' => Q .non H', rt := Q } (start ["self", f] vs) H := by
  obtain ⟨a, v, rfl, T, ea, k⟩ := h
  refine ⟨_, rfl, a, C, [.str z], rfl, (show 1 ≤ 1000 by decide), T, ea, fun t1 n1 ne1 => ⟨_, rfl, _, rfl, a, C, t1, rfl, T, upd_same, fun dx nd ned => ?_⟩⟩
  rw [upd_ne ned] at nd
  have ndt : dx ≠ t1 := fun z => by
    rw [z, upd_same] at nd
    cases nd
  rw [upd_ne ndt] at nd
  rw [upd_end ned]
  exact k t1 dx n1 ne1 nd ned ndt
section
open PySem.W PySem.Calls
variable {M : Model} {prog : Program} {w : World} {A : Around} {E : Value → Shared → Prop} {R : Result → Shared → Prop} {h : Heap} {g : Array GenState} {d : Drawn} {t : Nat} {os : OsState}
variable {nm q : Str} {C N : Addr} {bs bm bmB : List Value} {hdct : Bool} {sn : List Str} {sub : List Value} {ab : Bool} {col : Option Bool} {dd : Option Addr} {k0 k1 k2 k3 k5 : Option Value} {B newId initId : String} {kn : Str} {ku : Value}
/-- the same with one keyword -/
theorem check_new_kw (F : ExcBaseFacts B newId initId bmB) (hT : ∀ X : String, bm.contains (.type X) = bmB.contains (.type X)) {Q : Unit → Shared → Prop}
    (hC : h.get? C = some (excClassObj nm q C N bs bm hdct sn sub ab col dd k0 k1 k2 k3 k5 newId)) (hq : Q () ⟨h, g, d, t, os⟩) : wpAny M A (checkBuiltinCall newId ⟨[.ref C], [(kn, ku)]⟩) Q E ⟨h, g, d, t, os⟩ := by
  have hcont : (Value.ref C :: bm).contains (.type B) = true := by rw [List.contains_cons, hT, F.hasB, Bool.or_true]
  have hstar := F.noStar
  simp only [checkBuiltinCall, F.newKind, F.newSplit, F.newRow]
  repeat (first | refine wpAny_loadPart_at hC ?_ | (refine wpAny_isSubtype_exc hC ?_; rw [hcont]) | refine wpAny_staticBase_exc hC ?_ | refine wpAny_madeBy_exc hC ?_ | simp only [bne_self_eq_false, Bool.false_eq_true, if_false] | wp_step)
  exact hq
theorem new_own_kw (F : ExcBaseFacts B newId initId bmB) (hT : ∀ X : String, bm.contains (.type X) = bmB.contains (.type X))
    (hC : h.get? C = some (excClassObj nm q C N bs bm hdct sn sub ab col dd k0 k1 k2 k3 k5 newId))
    (hq : R (.ok (.ret (.ref (h.objs.size + 1)))) ⟨(h.push { cls := .type "tuple", data := .seq #[] }).push
      { cls := .ref C, data := .fields #[.ref h.objs.size, .none, .none, .none, .bool false, .none] }, g, d, t, os⟩) :
    codeAny (model prog w) A (.builtin newId ⟨[.ref C], [(kn, ku)]⟩) R ⟨h, g, d, t, os⟩ := by
  have hends := F.ends
  have hcB : (Value.ref C :: bm).contains (.type B) = true := by rw [List.contains_cons, hT, F.hasB, Bool.or_true]
  have hcA : (Value.ref C :: bm).contains (.type "AttributeError") = false := by rw [List.contains_cons, hT, F.noAttr]; rfl
  have hcN : (Value.ref C :: bm).contains (.type "NameError") = false := by rw [List.contains_cons, hT, F.noName]; rfl
  have hrest : ([] : List Value).length ≤ sizeLine := Nat.zero_le _
  refine codeAny_builtinAt F.entry ?_
  unfold Builtin.«BaseException.__new__»
  refine PySem.wpAt_bind ?_
  show PySem.wpAt _ _ _ (stack >>= _) _ _ _
  refine PySem.wpAt_bind (PySem.wpAt_stack fun p below => PySem.wpAt_of_wpAny ?_)
  wp_walk
  refine PySem.wpAt_of_wpAny ?_
  rw [F.owner]
  repeat (first | with_reducible refine wpAny_madeHere_exc F.canon hC ?_ | with_reducible refine wpAny_loadPart_at hC ?_ | (with_reducible refine wpAny_isSubtype_exc hC ?_; first | rw [hcB] | rw [hcA] | rw [hcN]) | wp_step)
  show R _ _
  rw [Heap.size_push]
  exact hq
theorem type_call_kw (F : ExcBaseFacts B newId initId bmB) (hT : ∀ X : String, bm.contains (.type X) = bmB.contains (.type X)) {fI : Addr} {Q : Fin → Shared → Prop}
    (hC : h.get? C = some (excClassObj nm q C N bs bm hdct sn sub ab col dd k0 k1 k2 k3 k5 newId))
    (hi : W.Looks (model prog w) h (typeLookup (.ref C) "__init__") (some (.ref fI))) (hb : ∀ self, W.Looks (model prog w) h (bindSpecial (.ref fI) self) (.ref fI, [self]))
    (hq : codeAny (model prog w) A (.call (.ref fI) ⟨[.ref (h.objs.size + 1)], [(kn, ku)]⟩)
      (fun r s' => match r with | .ok (.ret v) => v = .none ∧ Q (.done (.ret (.ref (h.objs.size + 1)))) s' | .ok _ => False | .error e => E e s')
      ⟨(h.push (W.kdv_tup [])).push (excO C h.objs.size), g, d, t, os⟩) :
    wpAny (model prog w) A (Builtin.«type.__call__» ⟨[.ref C], [(kn, ku)]⟩) Q E ⟨h, g, d, t, os⟩ := by
  repeat (first | with_reducible refine wpAny_loadPart_at hC ?_ | with_reducible refine wpAny_madeBy_exc hC ?_ | wp_step)
  refine codeAny_call_builtin_code (Code.quiet_builtin _ F.quiet) (check_new_kw F hT hC ?_)
  refine new_own_kw F hT hC ?_
  show wpAny _ _ _ _ _ _
  have k : ∀ b o, h.get? b = some o → ((h.push (W.kdv_tup [])).push (excO C h.objs.size)).get? b = some o := fun b o e => Heap.get?_push_of_some _ (Heap.get?_push_of_some _ e)
  have hC₁ := k _ _ hC
  have hget : ((h.push (W.kdv_tup [])).push (excO C h.objs.size)).get? (h.objs.size + 1) = some (excO C h.objs.size) := by heap_get
  have hcC : (Value.ref C :: bm).contains (.ref C) = true := by simp
  have i1 := hi.keeps k
  have b1 := (hb (.ref (h.objs.size + 1))).keeps k
  unfold isInstance
  repeat (first | with_reducible refine wpAny_loadPart_at hget ?_ | (with_reducible refine wpAny_isSubtype_exc hC₁ ?_; rw [hcC]) | wp_step)
  show wpAny _ _ (typeLookup (.ref C) _) _ _ _
  refine i1.at ?_
  refine wpAny_holding (wpAny_bind (b1.at ?_))
  refine wpAny_bind (wpAny_call (codeAny_mono hq fun r s' z => ?_))
  rcases r with e | (v | _ | _ | _) <;> first | exact z | exact z.elim | skip
  obtain ⟨rfl, z⟩ := z
  first
    | exact wpAny_pure (wpAny_pure z)
    | (wp_walk; exact z)
theorem call_own_kw (F : ExcBaseFacts B newId initId bmB) (hT : ∀ X : String, bm.contains (.type X) = bmB.contains (.type X)) {fI : Addr}
    (hC : h.get? C = some (excClassObj nm q C N bs bm hdct sn sub ab col dd k0 k1 k2 k3 k5 newId))
    (hi : W.Looks (model prog w) h (typeLookup (.ref C) "__init__") (some (.ref fI))) (hb : ∀ self, W.Looks (model prog w) h (bindSpecial (.ref fI) self) (.ref fI, [self]))
    (hq : codeAny (model prog w) (A.under (.builtin "type.__call__" ⟨[.ref C], [(kn, ku)]⟩)) (.call (.ref fI) ⟨[.ref (h.objs.size + 1)], [(kn, ku)]⟩) (W.InitBack (h.objs.size + 1) R)
      ⟨(h.push (W.kdv_tup [])).push (excO C h.objs.size), g, d, t, os⟩) :
    codeAny (model prog w) A (.call (.ref C) ⟨[], [(kn, ku)]⟩) R ⟨h, g, d, t, os⟩ := by
  have f1 := tc_lookup
  have f2 := tc_bind (.ref C)
  have hTy : (⟨h, g, d, t, os⟩ : Shared).TypeIs (.ref C) "type" := ⟨_, hC, rfl⟩
  refine codeAny_of_tree ?_
  show wpAny _ _ (callAny (.ref C) _) _ _ _
  repeat (any_goals (first | assumption | with_reducible refine wpAny_loadPart_at hC ?_ | wp_step))
  refine ⟨rfl, ?_⟩
  refine codeAny_call_builtin_at (Code.quiet_builtin _ (by decide +kernel)) entry_typeCall (wpAny_check_type_call_sub hC (type_call_kw F hT hC hi hb ?_))
  refine codeAny_mono hq fun r s' z => ?_
  rcases r with e | (v | _ | _ | _) <;> exact z
end
end XG
end Wk

set_option maxRecDepth 100000
set_option maxHeartbeats 4000000
/-! Own exceptions as values: made, asked by isinstance and str, their field read. -/
namespace Wk
namespace XG
open PySem PySem.Spec PyProof.Rows L2
open Builtin Builtin.ObjectAttr PySem.HandSPX
/-- an exception as a value: of the class at C, v in its field f -/
def MkGP (C : Addr) (f z : Str) (vs : List V) (H : Hp) (Q : VK) : Prop := ∃ v, vs = [v] ∧ ∀ a d t1, H a = none → H d = none → H t1 = none → d ≠ a → t1 ≠ a → d ≠ t1 → Q (.ref a) (mkdG a C d t1 f z v H)
def tMkG (C : Addr) (f z : Str) (ta : TA) : TE := fun σ H Q => ta σ H fun vs H1 => MkGP C f z vs H1 Q
theorem se_mkG {C : Addr} {f z : Str} {ta : TA} {σ : L2.St} {H : Hp} {Q : VK} (h : ta σ H fun vs H1 => MkGP C f z vs H1 Q) : tMkG C f z ta σ H Q := h
theorem mkG_now {H D : Hp} {R : List (Addr × HO)} {v : V} {C : Addr} {f z : Str} {Q : VK} (h : HI H R D) (k : ∀ a d t1 H' D', HI H' R D' → Ex D D' → D' a = some (exq a C (some d) t1) → D' d = some (exd d [(f, v)]) → D' t1 = some (.tup [.str z]) → Q (.ref a) H') : MkGP C f z [v] H Q :=
  ⟨v, rfl, fun a d t1 ha hd ht n1 n2 n3 => by
    have h0 := h.newD (o := .tup [.str z]) ht
    have hd1 : upd H t1 (.tup [.str z]) d = none := by rw [upd_ne n3]; exact hd
    have h1 := h0.newD (o := exd d [(f, v)]) hd1
    have ha1 : upd (upd H t1 (.tup [.str z])) d (exd d [(f, v)]) a = none := by rw [upd_ne n1.symm, upd_ne n2.symm]; exact ha
    have h2 := h1.newD (o := exq a C (some d) t1) ha1
    exact k a d t1 _ _ h2 ((Ex.new (h.free ht)).trans ((Ex.new (h0.free hd1)).trans (Ex.new (h1.free ha1)))) upd_same (by rw [upd_ne n1, upd_same]) (by rw [upd_ne n2, upd_ne n3.symm, upd_same])⟩
section
variable {X : Cx} {e : Expr} {te : TE} {ta tk : TA} {p pos : Pos} {C fI : Addr} {n f z : Str} {k : Nat} {b : BX} {kws : List Keyword}
theorem sp_new {K : PySem.W.Frag} {a : Addr} {H1 : Hp} {v : V} (T : OexG b f K C) : spInitG b K C f z [.ref a, v] (upd H1 a (exo a C none)) (fun w H2 => w = .non ∧ ∃ d t1, H1 d = none ∧ H1 t1 = none ∧ d ≠ a ∧ t1 ≠ a ∧ d ≠ t1 ∧ H2 = mkdG a C d t1 f z v H1) (fun _ _ _ => False) :=
  ⟨_, v, rfl, T, upd_same, fun t1 d n1 ne1 nd ned ndt => ⟨rfl, d, t1, (upd_ne ned).symm.trans nd, (upd_ne ne1).symm.trans n1, ned, ne1, ndt, by
    unfold mkdG
    rw [upd_swap (Ne.symm ne1), upd_end ned]⟩⟩
theorem run_excG {pins : List (Addr × Obj)} {σ : L2.St} {H1 : Hp} {s1 : Shared} {v : V} {u : Value} {Q : Value → Shared → Prop} (T : ExG b f X.K X.mg n C fI) (F1 : FnOk X.prog X.w X.K X.mg X.base CX0 k fI (fdOf X.K fI) ["self", f] (spInitG b X.K C f z)) (hb : Binds X.K (fdOf X.K fI) ["self", f] []) (hr : Room (k + 1) X.A)
    (I1 : Inv X pins σ H1 s1) (rv : RelV v u) (q : ∀ (a d t1 : Addr) (s2 : Shared), H1 a = none → H1 d = none → H1 t1 = none → d ≠ a → t1 ≠ a → d ≠ t1 → Inv X pins σ (mkdG a C d t1 f z v H1) s2 → Q (.ref a) s2) :
    wpAny (model X.prog X.w) X.A (call (.ref C) [u]) Q X.xe s1 := by
  obtain ⟨nm, N, qn, bs, bm, hdct, sn, sub, ab, col, dd, k0, k1, k2, k3, k5, hC, hT⟩ := PySem.W.excInit_of I1.kIn T.T.init
  obtain ⟨hp, g, dr, tk, os⟩ := s1
  have hsz : hp.objs.size ≤ hp.objs.size + 1 := Nat.le_succ _
  have hn : H1 (hp.objs.size + 1) = none := I1.hok.fresh hsz
  have kk : ∀ b o, hp.get? b = some o → ((hp.push (PySem.W.kdv_tup [u])).push (PySem.HandSPX.excO C hp.objs.size)).get? b = some o := fun b o e => Heap.get?_push_of_some _ (Heap.get?_push_of_some _ e)
  have hget : ((hp.push (PySem.W.kdv_tup [u])).push (PySem.HandSPX.excO C hp.objs.size)).get? (hp.objs.size + 1) = some (PySem.HandSPX.excO C hp.objs.size) := by heap_get
  have I2 : Inv X pins σ (upd H1 (hp.objs.size + 1) (exo (hp.objs.size + 1) C none)) ⟨(hp.push (PySem.W.kdv_tup [u])).push (PySem.HandSPX.excO C hp.objs.size), g, dr, tk, os⟩ :=
    I1.laid (t' := tk) (a := hp.objs.size + 1) (o := exo (hp.objs.size + 1) C none) (h' := (hp.push (PySem.W.kdv_tup [u])).push (PySem.HandSPX.excO C hp.objs.size)) kk hsz (exo_ok hget)
  have r2 : Vals [V.ref (hp.objs.size + 1), v] [Value.ref (hp.objs.size + 1), u] := .cons rfl (.cons rv .nil)
  have hus : [u].length ≤ sizeLine := by
    rw [sizeLine_eq]
    exact (by decide : 1 ≤ 16777216)
  refine wpAny_call (PySem.HandSPX.call_own T.T.ok.fb hT hC (PySem.W.looks_findIn I1.kIn T.iC) (fun self => PySem.W.bind_fn I1.kIn self T.tI) hus
    (codeAny_mono (F1.run _ X.stack _ _ ⟨[Value.ref (hp.objs.size + 1), u], []⟩ [Value.ref (hp.objs.size + 1), u] _ _ (fun _ _ _ => False) (hr.make C [u] []) (I2.env0.make C [u] []) (hb _ [Value.ref (hp.objs.size + 1), u] I2.kIn rfl) r2 (sp_new T.T)) fun r s' hq' => ?_))
  cases r with
  | error er => exact hq'.elim
  | ok fl =>
    cases fl with
    | ret zz =>
      have hq0 := hq'
      obtain ⟨w, H2, os2, bare2, un2, hok2, rw', ew, _⟩ := hq'
      subst ew
      obtain ⟨w', H3, J, rw2, ew2, d', t', hd', ht', ne1, ne2, ne3, e3⟩ := I2.after hq0
      subst ew2
      subst e3
      exact ⟨rw', q _ d' t' _ hn hd' ht' ne1 ne2 ne3 J⟩
    | next => exact False.elim hq'
    | brk => exact False.elim hq'
    | cont => exact False.elim hq'
theorem run_excK {pins : List (Addr × Obj)} {σ : L2.St} {H1 : Hp} {s1 : Shared} {v : V} {u : Value} {Q : Value → Shared → Prop} (T : ExG b f X.K X.mg n C fI) (F1 : FnOk X.prog X.w X.K X.mg X.base CX0 k fI (fdOf X.K fI) ["self", f] (spInitG b X.K C f z)) (hb : KB X.K (fdOf X.K fI) ["self", f] 1 [f] (fun vs zs => gI [0, 1] (vs ++ zs))) (hr : Room (k + 1) X.A)
    (I1 : Inv X pins σ H1 s1) (rv : RelV v u) (q : ∀ (a d t1 : Addr) (s2 : Shared), H1 a = none → H1 d = none → H1 t1 = none → d ≠ a → t1 ≠ a → d ≠ t1 → Inv X pins σ (mkdG a C d t1 f z v H1) s2 → Q (.ref a) s2) :
    wpAny (model X.prog X.w) X.A (call (.ref C) [] [(f, u)]) Q X.xe s1 := by
  obtain ⟨nm, N, qn, bs, bm, hdct, sn, sub, ab, col, dd, k0, k1, k2, k3, k5, hC, hT⟩ := PySem.W.excInit_of I1.kIn T.T.init
  obtain ⟨hp, g, dr, tk, os⟩ := s1
  have hsz : hp.objs.size ≤ hp.objs.size + 1 := Nat.le_succ _
  have hn : H1 (hp.objs.size + 1) = none := I1.hok.fresh hsz
  have kk : ∀ b o, hp.get? b = some o → ((hp.push (PySem.W.kdv_tup [])).push (PySem.HandSPX.excO C hp.objs.size)).get? b = some o := fun b o e => Heap.get?_push_of_some _ (Heap.get?_push_of_some _ e)
  have hget : ((hp.push (PySem.W.kdv_tup [])).push (PySem.HandSPX.excO C hp.objs.size)).get? (hp.objs.size + 1) = some (PySem.HandSPX.excO C hp.objs.size) := by heap_get
  have I2 : Inv X pins σ (upd H1 (hp.objs.size + 1) (exo (hp.objs.size + 1) C none)) ⟨(hp.push (PySem.W.kdv_tup [])).push (PySem.HandSPX.excO C hp.objs.size), g, dr, tk, os⟩ :=
    I1.laid (t' := tk) (a := hp.objs.size + 1) (o := exo (hp.objs.size + 1) C none) (h' := (hp.push (PySem.W.kdv_tup [])).push (PySem.HandSPX.excO C hp.objs.size)) kk hsz (exo_ok hget)
  obtain ⟨gg, hb⟩ := hb
  have r2 : Vals [V.ref (hp.objs.size + 1), v] (gg [Value.ref (hp.objs.size + 1)] [u]) := hb.rel (vs := [V.ref (hp.objs.size + 1)]) (zs := [v]) (.cons rfl .nil) (.cons rv .nil)
  refine wpAny_call (call_own_kw T.T.ok.fb hT hC (PySem.W.looks_findIn I1.kIn T.iC) (fun self => PySem.W.bind_fn I1.kIn self T.tI)
    (codeAny_mono (F1.run _ X.stack _ _ ⟨[Value.ref (hp.objs.size + 1)], [(f, u)]⟩ (gg [Value.ref (hp.objs.size + 1)] [u]) _ _ (fun _ _ _ => False) (hr.make C [] [(f, u)]) (I2.env0.make C [] [(f, u)]) (hb.to _ [Value.ref (hp.objs.size + 1)] [u] I2.kIn rfl rfl) r2 (sp_new T.T)) fun r s' hq' => ?_))
  cases r with
  | error er => exact hq'.elim
  | ok fl =>
    cases fl with
    | ret zz =>
      have hq0 := hq'
      obtain ⟨w, H2, os2, bare2, un2, hok2, rw', ew, _⟩ := hq'
      subst ew
      obtain ⟨w', H3, J, rw2, ew2, d', t', hd', ht', ne1, ne2, ne3, e3⟩ := I2.after hq0
      subst ew2
      subst e3
      exact ⟨rw', q _ d' t' _ hn hd' ht' ne1 ne2 ne3 J⟩
    | next => exact False.elim hq'
    | brk => exact False.elim hq'
    | cont => exact False.elim hq'
theorem pe_mkG (T : ExG b f X.K X.mg n C fI) (F1 : FnOk X.prog X.w X.K X.mg X.base CX0 k fI (fdOf X.K fI) ["self", f] (spInitG b X.K C f z)) (hb : Binds X.K (fdOf X.K fI) ["self", f] []) (hr : Room (k + 1) X.A) (hg : Gl X n) (ha : PA X [e] ta)
    (hdb : (n == ("__debug__" : Str)) = false := by decide) (he : starEach [e] X.env = (false, eval e X.env) :: starEach [] X.env := by rfl) (hpl : (backTo pos (starEach [] X.env)).any (·.1) = false := by rfl) :
    PE X (.Call (.Name n p) [e] [] pos) (tMkG C f z ta) := by
  refine ⟨fun pins s σ H Q I h => ?_⟩
  refine wpAny_Call_Name_kw (ld_glob I hg T.g ?_ hdb)
  refine PySem.W.callWith_K (h₀ := X.base) I.ok.mod.kin T.T.kC (thn (ha.run pos pins s σ H _ I h) fun us s1 ⟨vs, H1, I1, r1, v, ev, q1⟩ => ⟨I1.kIn, ?_⟩) he hpl
  subst ev
  cases r1 with
  | @cons _ u _ us rv rn =>
    cases rn
    show wpAny _ _ (call (.ref C) [u]) _ _ _
    exact run_excG T F1 hb hr I1 rv fun a d t1 s2 ha hd ht n1 n2 n3 J => ⟨.ref a, _, J, rfl, q1 a d t1 ha hd ht n1 n2 n3⟩
theorem pe_mkGK (T : ExG b f X.K X.mg n C fI) (F1 : FnOk X.prog X.w X.K X.mg X.base CX0 k fI (fdOf X.K fI) ["self", f] (spInitG b X.K C f z)) (hb : KB X.K (fdOf X.K fI) ["self", f] 1 [f] (fun vs zs => gI [0, 1] (vs ++ zs))) (hr : Room (k + 1) X.A) (hg : Gl X n)
    (hkw : PK X kws tk) (hdb : (n == ("__debug__" : Str)) = false := by decide) (hall : (backToKw pos (keywordEach kws X.env)).all (·.1.isSome) = true := by rfl) (hks : (backToKw pos (keywordEach kws X.env)).filterMap (·.1) = [f] := by rfl)
    (hpl : ((backTo pos (starEach [] X.env)).any (·.1) || (backToKw pos (keywordEach kws X.env)).any (·.1.isNone)) = false := by rfl) :
    PE X (.Call (.Name n p) [] kws pos) (tMkG C f z tk) := by
  refine ⟨fun pins s σ H Q I h => ?_⟩
  refine wpAny_Call_Name_kw (ld_glob I hg T.g ?_ hdb)
  refine PySem.W.callWith_KW0 (h₀ := X.base) I.ok.mod.kin T.T.kC hall ?_ hpl
  refine thn (hkw.run pos pins s σ H _ I h) fun ws s2 ⟨zs, H2, I2, rz, v, ev, q1⟩ => ⟨I2.kIn, ?_⟩
  subst ev
  cases rz with
  | @cons _ u _ us rv rn =>
    cases rn
    rw [hks]
    show wpAny _ _ (call (.ref C) [] [(f, u)]) _ _ _
    exact run_excK T F1 hb hr I2 rv fun a d t1 s2 ha hd ht n1 n2 n3 J => ⟨.ref a, _, J, rfl, q1 a d t1 ha hd ht n1 n2 n3⟩
end
/-! ### one without an __init__ of its own -/
def mkdB (a C t1 : Addr) (vs : List V) (H : Hp) : Hp := upd (upd H t1 (.tup vs)) a (exq a C none t1)
def MkBP (C : Addr) (vs : List V) (H : Hp) (Q : VK) : Prop := vs.length ≤ 1000 ∧ ∀ a t1, H a = none → H t1 = none → t1 ≠ a → Q (.ref a) (mkdB a C t1 vs H)
def tMkB (C : Addr) (ta : TA) : TE := fun σ H Q => ta σ H fun vs H1 => MkBP C vs H1 Q
theorem se_mkB {C : Addr} {ta : TA} {σ : L2.St} {H : Hp} {Q : VK} (h : ta σ H fun vs H1 => MkBP C vs H1 Q) : tMkB C ta σ H Q := h
theorem mkB_now {H D : Hp} {R : List (Addr × HO)} {v : V} {C : Addr} {Q : VK} (h : HI H R D) (k : ∀ a t1 H' D', HI H' R D' → Ex D D' → D' a = some (exq a C none t1) → D' t1 = some (.tup [v]) → Q (.ref a) H') : MkBP C [v] H Q :=
  ⟨(by decide : 1 ≤ 1000), fun a t1 ha ht n1 => by
    have h0 := h.newD (o := .tup [v]) ht
    have ha1 : upd H t1 (.tup [v]) a = none := by rw [upd_ne n1.symm]; exact ha
    have h1 := h0.newD (o := exq a C none t1) ha1
    exact k a t1 _ _ h1 ((Ex.new (h.free ht)).trans (Ex.new (h0.free ha1))) upd_same (by rw [upd_ne n1, upd_same])⟩
section
variable {X : Cx} {e : Expr} {ta : TA} {p pos : Pos} {C : Addr} {n : Str} {b : BX}
theorem run_B {pins : List (Addr × Obj)} {σ : L2.St} {H1 : Hp} {s1 : Shared} {vs : List V} {us : List Value} {Q : Value → Shared → Prop} (T : ExBG b X.K X.mg n C) (I1 : Inv X pins σ H1 s1) (rv : Vals vs us) (hl : us.length ≤ sizeLine)
    (q : ∀ (a t1 : Addr) (s2 : Shared), H1 a = none → H1 t1 = none → t1 ≠ a → Inv X pins σ (mkdB a C t1 vs H1) s2 → Q (.ref a) s2) : wpAny (model X.prog X.w) X.A (call (.ref C) us) Q X.xe s1 := by
  obtain ⟨nm, N, qn, bs, bm, hdct, sn, sub, ab, col, dd, k0, k1, k2, k3, k5, hC, hT⟩ := PySem.W.excInit_of I1.kIn T.init
  obtain ⟨hp, g, dr, tk, os⟩ := s1
  refine PySem.W.call_B T.ok.fb hT hC (PySem.W.looks_findIn I1.kIn T.iC) hl fun h' k e' t' => ?_
  have ha : H1 (hp.objs.size + 1) = none := I1.hok.fresh (by show hp.objs.size ≤ _; omega)
  have ht : H1 (hp.objs.size + 2) = none := I1.hok.fresh (by show hp.objs.size ≤ _; omega)
  have na : ∀ {b : Addr} {o : Obj}, hp.get? b = some o → b ≠ hp.objs.size + 1 := fun {b o} q => Nat.ne_of_lt (Nat.lt_succ_of_lt (Heap.lt_size q))
  have nt : ∀ {b : Addr} {o : Obj}, hp.get? b = some o → b ≠ hp.objs.size + 2 := fun {b o} q => Nat.ne_of_lt (Nat.lt_succ_of_lt (Nat.lt_succ_of_lt (Heap.lt_size q)))
  have Un1 : Un X.fs [] H1 (mkdB (hp.objs.size + 1) C (hp.objs.size + 2) vs H1) hp h' := {
    keep := fun b o q n _ _ => k b o q
    slot := fun b o q n _ _ => ⟨o.slots, k b o q⟩
    free := fun b o q n _ => by unfold mkdB; rw [upd_ne (na q), upd_ne (nt q)]; exact n
    there := fun b o q _ => ⟨o, k b o q⟩
    tups := fun b xs q => by unfold mkdB; rw [upd_ne (ne_of_none q ha), upd_ne (ne_of_none q ht)]; exact q
    frzs := fun b o v q => by unfold mkdB; rw [upd_ne (ne_of_none q ha), upd_ne (ne_of_none q ht)]; exact q
    tbls := fun b ps q => ⟨#[], by unfold mkdB; rw [upd_ne (ne_of_none q ha), upd_ne (ne_of_none q ht), q]; simp⟩ }
  refine q _ _ _ ha ht (Nat.ne_of_gt (Nat.lt_succ_self (hp.objs.size + 1))) (I1.un (t' := tk) Un1 fun b o q => ?_)
  unfold mkdB at q ⊢
  by_cases hb : b = hp.objs.size + 1
  · subst hb
    rw [upd_same] at q
    cases q
    exact exq_ok e'
  · rw [upd_ne hb] at q
    by_cases hd : b = hp.objs.size + 2
    · subst hd
      rw [upd_same] at q
      cases q
      exact ⟨by rw [rv.length]; exact hl, us, rv, ⟨_, t', rfl, _, rfl⟩⟩
    · rw [upd_ne hd] at q
      exact (I1.hok b o q).stay (fun c v hc z => k c v z) (fun c hc => by rw [upd_ne (ne_of_none hc ha), upd_ne (ne_of_none hc ht)]; exact hc) (fun c xs hc => by rw [upd_ne (ne_of_none hc ha), upd_ne (ne_of_none hc ht)]; exact hc)
theorem pe_mkB (T : ExBG b X.K X.mg n C) (hg : Gl X n) (ha : PA X [e] ta)
    (hdb : (n == ("__debug__" : Str)) = false := by decide) (he : starEach [e] X.env = (false, eval e X.env) :: starEach [] X.env := by rfl) (hpl : (backTo pos (starEach [] X.env)).any (·.1) = false := by rfl) :
    PE X (.Call (.Name n p) [e] [] pos) (tMkB C ta) := by
  refine ⟨fun pins s σ H Q I h => ?_⟩
  refine wpAny_Call_Name_kw (ld_glob I hg T.g ?_ hdb)
  refine PySem.W.callWith_K (h₀ := X.base) I.ok.mod.kin T.kC (thn (ha.run pos pins s σ H _ I h) fun us s1 ⟨vs, H1, I1, r1, l1, q1⟩ => ⟨I1.kIn, ?_⟩) he hpl
  show wpAny _ _ (call (.ref C) us) _ _ _
  exact run_B T I1 r1 (by rw [← r1.length, sizeLine_eq]; omega) fun a t1 s2 ha ht n1 J => ⟨.ref a, _, J, rfl, q1 a t1 ha ht n1⟩
end
/-! ### str, isinstance, the field -/
inductive RStrX (K : PySem.W.Frag) : List V → Hp → VK → Prop
  | x {a C t1 : Addr} {d : Option Addr} {z : Str} {H : Hp} {Q : VK} : H a = some (exq a C d t1) → H t1 = some (.tup [.str z]) → PySem.W.findIn K (.ref C) "__str__" = some (some (.builtin "BaseException.__str__")) → PySem.W.subIn K (.ref C) (.type "BaseException") = some true → Q (.str z) H → RStrX K [.ref a] H Q
theorem call_strX {X : Cx} {k : Nat} (hr : Room k X.A) : CallR X (.type "str") (RStrX X.K) := by
  intro pins s σ H xs us Q I r h
  cases h with
  | @x a C t1 d z _ _ e e2 hs hB q =>
    obtain ⟨u, rfl, ru⟩ := vals1 r
    cases ru
    have g1 := exq_at I.hok e
    obtain ⟨its, rv, ⟨o, ho, hc, n, hd⟩, _⟩ := I.tuple (SqT.of e2)
    cases rv with
    | @cons _ u _ us r1 r2 =>
      cases r2
      obtain ⟨tk, rfl⟩ := r1
      exact PySem.P.str_of_C_one (by have := hr.units; omega) ⟨I.kIn, _, _, g1, rfl, rfl, rfl⟩ ⟨o, n, ho, hc, hd⟩ hs hB ⟨.str z, H, I, ⟨tk, rfl⟩, q⟩
inductive RIsiX (K : PySem.W.Frag) : List V → Hp → VK → Prop
  | x {a C t1 : Addr} {d : Option Addr} {c : V} {w : Value} {b : Bool} {H : Hp} {Q : VK} : H a = some (exq a C d t1) → (∀ y, d = some y → ∃ fs, H y = some (exd y fs)) → ExcC K C → ClsV c w → PySem.W.kitOne K (.ref C) w = some b → Q (.bl b) H → RIsiX K [.ref a, c] H Q
theorem call_isiX {X : Cx} : CallR X (.builtin "isinstance") (RIsiX X.K) := by
  intro pins s σ H xs us Q I r h
  cases h with
  | @x a C t1 d c w b _ _ e dd E cw kt q =>
    obtain ⟨u1, u2, rfl, r1, r2⟩ := vals2 r
    obtain rfl : u1 = Value.ref a := r1
    obtain rfl : u2 = w := cw.eq r2
    have ho := exq_at I.hok e
    cases d with
    | none => exact PySem.W.kia_one (PySem.W.handS_kitx_exc E.hg E.hk E.hs E.hd E.ha E.hn E.ht E.hm) I.kIn (⟨ho, rfl, rfl, trivial⟩ : PySem.W.InstAt s.heap a _ C none) kt (fun z => nomatch z) fun tk => ⟨.bl b, H, I.tok tk, rfl, q⟩
    | some y =>
      obtain ⟨fs, ed⟩ := dd y rfl
      obtain ⟨mA, hns, rel⟩ := exd_at I.hok ed
      obtain ⟨oD, _, _, hoD, _, _⟩ := hns.count (within_of rel)
      exact PySem.W.kia_one (kitx_X (od := oD) E) I.kIn ⟨ho, rfl, rfl, hoD⟩ kt (fun z => nomatch z) fun tk => ⟨.bl b, H, I.tok tk, rfl, q⟩
def FldXP (K : PySem.W.Frag) (f : Str) (x : V) (H : Hp) (Q : VK) : Prop := ∃ (a C d t1 : Addr) (v : V), x = .ref a ∧ H a = some (exq a C (some d) t1) ∧ H d = some (exd d [(f, v)]) ∧ ExcC K C ∧ PySem.W.findIn K (.ref C) f = some none ∧ Q v H
def tFldX (K : PySem.W.Frag) (f : Str) (te : TE) : TE := fun σ H Q => te σ H fun x H1 => FldXP K f x H1 Q
theorem se_fldX {K : PySem.W.Frag} {f : Str} {te : TE} {σ : L2.St} {H : Hp} {Q : VK} (h : te σ H fun x H1 => FldXP K f x H1 Q) : tFldX K f te σ H Q := h
section
variable {X : Cx} {e : Expr} {te : TE} {pos : Pos} {f : Str}
theorem pe_fldX (he : PE X e te) (hb : attributeBase e f X.env (eval e X.env) = eval e X.env := by rfl) : PE X (.Attribute e f pos) (tFldX X.K f te) := by
  refine ⟨fun pins s σ H Q I h => ?_⟩
  refine attr_of hb (thn (he.run pins s σ H _ I h) fun u s1 hh => ?_)
  obtain ⟨x, H1, I1, rx, a, C, d, t1, v, ex, ea, ed, T, no, q⟩ := hh
  subst ex
  obtain rfl : u = Value.ref a := rx
  have ho := exq_at I1.hok ea
  obtain ⟨mA, hns, hr⟩ := exd_at I1.hok ed
  obtain ⟨od, hod, hl⟩ := lookIn_ns hns
  have l : List.lookup f [(f, v)] = some v := by simp [List.lookup]
  obtain ⟨u, hu, ru⟩ := RelO.some_of (v := v) (o := mA f) (by rw [← l]; exact hr f)
  have J : PySem.W.InstAt s1.heap a _ C (some od) := ⟨ho, rfl, rfl, hod⟩
  exact HandSPX.exc_get I1.kIn J T.hg T.hk T.hs (PySem.W.findObj_own T.hd no rfl (by rw [hl, hu])) (handed_of ru) ⟨v, H1, I1.tok _, ru, q⟩
end
/-! ### the facts, by looking -/
def excCB (n : Str) (K : PySem.W.Frag) : Bool :=
  let C := He.ga K n
  He.eqO (PySem.W.findIn K (.ref C) "__getattribute__") (some (some (.builtin "BaseException.__getattribute__"))) && (He.eqO (PySem.W.findIn K (.ref C) "__getattr__") (some none) && (eqB (PySem.W.subIn K (.ref C) (.type "BaseException")) (some true) && (PySem.W.hasDictIn K C &&
  (He.eqO (PySem.W.findIn K (.ref C) "__class__") (some (some (.builtin "object.__class__"))) && (He.eqO (PySem.W.specialIn K (.builtin "object.__class__") "__get__") (some (some (.builtin "getset_descriptor.__get__"))) && (eqB (PySem.W.takesIn K (.builtin "object.__class__")) (some true) && eqB (PySem.W.mroIn K C (.type "object")) (some true)))))))
theorem excC_ok {K : PySem.W.Frag} {n : Str} (c : excCB n K = true) : ExcC K (He.ga K n) := by
  obtain ⟨a1, c⟩ := He.ba c
  obtain ⟨a2, c⟩ := He.ba c
  obtain ⟨a3, c⟩ := He.ba c
  obtain ⟨a4, c⟩ := He.ba c
  obtain ⟨a5, c⟩ := He.ba c
  obtain ⟨a6, c⟩ := He.ba c
  obtain ⟨a7, a8⟩ := He.ba c
  exact ⟨He.eqO_ok a1, He.eqO_ok a2, of_decide_eq_true a3, a4, He.eqO_ok a5, He.eqO_ok a6, of_decide_eq_true a7, of_decide_eq_true a8⟩
def exkG (b : BX) (f n : Str) (K : PySem.W.Frag) : Bool :=
  let C := He.ga K n
  excCB n K && (PySem.W.excInitIn K C b.bm b.nw && (PySem.W.excOver K C b.bm && (decide (PySem.W.takerIn K C f = some none) && (He.eqO (PySem.W.findIn K (.ref C) "__setattr__") (some (some (.builtin "object.__setattr__"))) && (PySem.W.keepIn K (.ref C) &&
  (He.eqO (PySem.W.findIn K (.ref C) "__init__") (some (some (.ref (He.ma K C "__init__")))) && (eqV (PySem.W.typeIn K (.ref (He.ma K C "__init__"))) (some (.type "function")) && He.eqO (PySem.W.findIn K (.ref C) f) (some none))))))))
def exbG (b : BX) (n : Str) (K : PySem.W.Frag) : Bool :=
  let C := He.ga K n
  excCB n K && (PySem.W.readsIn K C (.type "type") && (He.eqO (PySem.W.specialIn K (.ref C) "__getattribute__") (some (some (.builtin "type.__getattribute__"))) && (isVal (PySem.W.findCls K (.ref C) (.type "type") "__init__") b.ini && (PySem.W.excInitIn K C b.bm b.nw && (PySem.W.keepIn K (.ref C) &&
  (He.eqO (PySem.W.findIn K (.ref C) "__init__") (some (some (.builtin b.ini))) && He.eqO (PySem.W.findIn K (.ref C) "__str__") (some (some (.builtin "BaseException.__str__")))))))))
section
variable {K : PySem.W.Frag} {h : Heap} {mg : Str → Option Value} {b : BX}
theorem exkG_ok (ok : b.Ok) (X : K.In h) (G : h.Ns mainGlobals mg) {f n : Str} (c1 : (He.Fa.glo n).ok K = true) (c : exkG b f n K = true) : ExG b f K mg n (He.ga K n) (He.ma K (He.ga K n) "__init__") := by
  obtain ⟨a1, c⟩ := He.ba c
  obtain ⟨a2, c⟩ := He.ba c
  obtain ⟨a3, c⟩ := He.ba c
  obtain ⟨a4, c⟩ := He.ba c
  obtain ⟨a5, c⟩ := He.ba c
  obtain ⟨a6, c⟩ := He.ba c
  obtain ⟨a7, c⟩ := He.ba c
  obtain ⟨a8, a9⟩ := He.ba c
  have E := excC_ok a1
  exact ⟨He.glo_ok X G c1, ⟨ok, a2, a3, of_decide_eq_true a4, E.hd, He.eqO_ok a5, a6⟩, E, He.eqO_ok a7, of_decide_eq_true a8, He.eqO_ok a9⟩
theorem exbG_ok (ok : b.Ok) (X : K.In h) (G : h.Ns mainGlobals mg) {n : Str} (c1 : (He.Fa.glo n).ok K = true) (c : exbG b n K = true) : ExBG b K mg n (He.ga K n) := by
  obtain ⟨a1, c⟩ := He.ba c
  obtain ⟨a2, c⟩ := He.ba c
  obtain ⟨a3, c⟩ := He.ba c
  obtain ⟨a4, c⟩ := He.ba c
  obtain ⟨a5, c⟩ := He.ba c
  obtain ⟨a6, c⟩ := He.ba c
  obtain ⟨a7, a8⟩ := He.ba c
  exact ⟨He.glo_ok X G c1, a2, He.eqO_ok a3, isVal_ok a4, a5, ok, a6, He.eqO_ok a7, He.eqO_ok a8, excC_ok a1⟩
end
/-- of a built-in class -/
def kvB (x : Str) (n : String) (b : Bool) (K : PySem.W.Frag) : Bool := eqB (PySem.W.kitOne K (.ref (He.ga K x)) (.type n)) (some b)
end XG
end Wk

set_option maxRecDepth 100000
set_option maxHeartbeats 4000000
/-! A law's end. -/
namespace Wk
open PySem PySem.Spec PyProof.Rows L2
def noList (K : PySem.W.Frag) : Bool := K.all fun p => !(p.2.cls == .type "list")
theorem noList_ok : ∀ {K : PySem.W.Frag} {a : Addr} {o : Obj}, noList K = true → K.lookup a = some o → o.cls = .type "list" → False
  | [], a, o, _, e, _ => nomatch (show (none : Option Obj) = some o from e)
  | (b, ob) :: r, a, o, h, e, hc => by
    unfold noList at h
    rw [List.all_cons] at h
    obtain ⟨h1, h2⟩ := He.ba h
    have e2 : (match a == b with | true => some ob | false => List.lookup a r) = some o := e
    cases q : (a == b) with
    | true =>
      rw [q] at e2
      have eo : ob = o := Option.some.inj e2
      rw [eo, hc] at h1
      exact absurd h1 (by decide +kernel)
    | false =>
      rw [q] at e2
      exact noList_ok (K := r) h2 e2 hc
theorem law_endG {l : PySem.W.OpenLaw} {n k : Nat} {q : Program} {loose : List Str} {XP : (Str → Option Value) → Heap → Prop} {YP : World → Heap → Prop} {d : DefRec} {x : Str}
    (hn : l.most = some n) (hn2 : n ≤ sizeLine) (hdf : d.params.defaults = []) (hr : Room k callerA)
    (F : ∀ (w : World) (mg : Str → Option Value) (fa : Addr) (h : Heap), YP w h → h.Ns mainGlobals mg → mg d.name = some (.ref fa) →
      ∃ (K : PySem.W.Frag) (sp : Sp), K.In h ∧ noList K = true ∧ (∀ (s : Shared) (u : Value), BindsTo s (fdOf K fa) ⟨[u], []⟩ [(x, u)]) ∧
        (∀ (H : Hp) (a : Addr) (o : Obj) (ns : List Int), ns.length ≤ n → HI H [] H → H a = some (.frz o (.lst (ns.map V.int))) → sp [.ref a] H (fun v _ => v = .bl true) fun _ _ _ => False) ∧
        ∀ base : Heap, K.In base → base.Ns mainGlobals mg → FnG l.prog w K mg base k fa [x] sp) :
    PySem.W.WalkO q loose XP YP l.row.toRowW d [] (fun f vs => PySem.call f vs) := by
  refine Att.attach_call hn hdf fun w s₀ s₁ mg mb fa o pm cd doc a vs ns G Y ho hd hcd hmg hobj hints hlen hg => ?_
  obtain ⟨K, sp, KX, hno, hb, hsp, hF⟩ := F w mg fa _ Y G.T.g hmg
  have hns := G.T.g
  have ha := hobj
  have hl : ns.length ≤ sizeLine := Nat.le_trans hlen hn2
  have rv := vals_ints hints
  have hk : K.lookup a = none := by
    cases e : K.lookup a with
    | none => rfl
    | some ob =>
      have e1 := KX a ob e
      rw [ha] at e1
      cases e1
      exact (noList_ok hno e rfl).elim
  let H : Hp := fun b => if b = a then some (.frz { cls := .type "list", data := .seq vs.toArray } (.lst (ns.map V.int))) else none
  have Ha : H a = some (.frz { cls := .type "list", data := .seq vs.toArray } (.lst (ns.map V.int))) := if_pos rfl
  have Hn : ∀ {b : Addr}, b ≠ a → H b = none := fun hb => if_neg hb
  have Hs : ∀ {b : Addr} {u : HO}, H b = some u → b = a := fun {b u} z => by
    by_cases hb : b = a
    · exact hb
    · rw [Hn hb] at z
      cases z
  have hok : HOk l.prog w H s₁.heap := fun b u z => by
    have hb := Hs z
    subst hb
    rw [Ha] at z
    cases z
    exact ⟨ha, by rw [List.length_map]; exact hl, vs, _, rv, ha⟩
  have base_of : ∀ {b : Addr} {o : Obj}, s₁.heap.get? b = some o → H b = none → (hidT s₁.heap H).get? b = some o := fun e n => hidT_get e n
  have noA : ∀ {b : Addr} {o : Obj} {es : Array DictEntry} {ep : Nat}, s₁.heap.get? b = some o → o.data = .dict es ep → H b = none := fun {b o es ep} e d => by
    by_cases hb : b = a
    · subst hb
      rw [ha] at e
      cases e
      have d' : Data.seq vs.toArray _ = Data.dict es ep := d
      cases d'
    · exact Hn hb
  have nsK : ∀ {b : Addr} {m : Str → Option Value}, s₁.heap.Ns b m → (hidT s₁.heap H).Ns b m := fun {b m} ⟨o, es, ep, e, d, r⟩ => ⟨o, es, ep, base_of e (noA e d), d, r⟩
  have hKb : K.In (hidT s₁.heap H) := fun b o e => base_of (KX b o e) (by
    by_cases hb : b = a
    · rw [hb, hk] at e
      cases e
    · exact Hn hb)
  have hM : Mod K mg (hidT s₁.heap H) := ⟨hKb, nsK hns, ⟨mb, nsK G.T.b, G.T.builtins⟩, let ⟨mc, h1, h2⟩ := G.T.nolimit; ⟨mc, nsK h1, h2⟩⟩
  have e0 : Env0 l.prog w K mg (hidT s₁.heap H) callerA [] s₁ H := ⟨rfl, hM, fun b o e => of_hidT e, Nat.le_of_eq (hidT_size _ _), trivial, fun b hb => absurd (show b ∈ ([] : List Addr) from hb) (by simp), hok, .of_eq hg⟩
  have hI : HI H [] H := ⟨by simp, (fun p hp => by cases hp), fun b u z => z⟩
  refine codeAny_mono ((hF _ hKb (nsK hns)).run callerA [] s₁ H ⟨[.ref a], []⟩ [.ref a] [.ref a] _ _ rfl hr e0 (hb s₁ (.ref a)) (.cons rfl .nil) (hsp H a _ ns hlen hI Ha)) fun r s' h => ?_
  cases r with
  | error e =>
    obtain ⟨_, _, _, _, _, _, _, _, _, _, _, _, z⟩ := h
    exact z.elim
  | ok fl =>
    cases fl with
    | next => exact False.elim h
    | brk => exact False.elim h
    | cont => exact False.elim h
    | ret u =>
      obtain ⟨v, H', os, bare, un, hok', r', q⟩ := h
      have q' : v = .bl true := q
      subst q'
      obtain rfl : u = Value.bool true := r'
      refine ⟨rfl, OldK.of_keep fun b o e => ?_, os, bare⟩
      by_cases hb : b = a
      · subst hb
        have z2 := un.frzs b _ _ Ha
        obtain ⟨e2, _⟩ := hok' b _ z2
        rw [ha] at e
        cases e
        exact e2
      · exact un.keep b o e (Hn hb) (by intro z; exact absurd (show b ∈ ([] : List Addr) from z) (by simp)) (by simp)
end Wk

set_option maxRecDepth 100000
set_option maxHeartbeats 4000000
namespace Wk
open PySem PySem.Spec PyProof.Rows L2
/-! ### the text by places -/
def top (i : Nat) : Stmt := PySem.Challenge.pw_weekheads_k04_refusals_apart.main.body.getD i (.Pass ⟨0, 0, 0, 0⟩)
abbrev s_NoName_init : Stmt := inClass (top 3) 0
abbrev s_NoNumber_init : Stmt := inClass (top 4) 0
abbrev s_NoSort_init : Stmt := inClass (top 5) 0
abbrev s_NoYear_init : Stmt := inClass (top 6) 0
abbrev s_NoWeek_init : Stmt := inClass (top 7) 0
abbrev s_NoRow_init : Stmt := inClass (top 8) 0
abbrev s_NoStay_init : Stmt := inClass (top 9) 0
abbrev s_NoRests_init : Stmt := inClass (top 10) 0
abbrev s_NoList_init : Stmt := inClass (top 11) 0
abbrev s_Doubled_init : Stmt := inClass (top 12) 0
abbrev s_TooMany_init : Stmt := inClass (top 13) 0
abbrev s_NotThere_init : Stmt := inClass (top 14) 0
abbrev s_l_cell : Stmt := top 16
abbrev s_l_box : Stmt := top 17
abbrev s_l_take : Stmt := top 18
abbrev s_l_thing : Stmt := top 19
abbrev s_l_first : Stmt := top 20
abbrev s_l_made : Stmt := top 21
abbrev s_l_kinds : Stmt := top 22
abbrev s_l_families : Stmt := top 23
abbrev s_l_right : Stmt := top 24
abbrev s_l_texts : Stmt := top 25
abbrev s_law : Stmt := top 26
def d_NoName_init : He.DefD := ⟨("NoName", some "__init__"), "__init__", "NoName.__init__", defArgs s_NoName_init, defBody s_NoName_init, defScope s_NoName_init, [], []⟩
def d_NoNumber_init : He.DefD := ⟨("NoNumber", some "__init__"), "__init__", "NoNumber.__init__", defArgs s_NoNumber_init, defBody s_NoNumber_init, defScope s_NoNumber_init, [], []⟩
def d_NoSort_init : He.DefD := ⟨("NoSort", some "__init__"), "__init__", "NoSort.__init__", defArgs s_NoSort_init, defBody s_NoSort_init, defScope s_NoSort_init, [], []⟩
def d_NoYear_init : He.DefD := ⟨("NoYear", some "__init__"), "__init__", "NoYear.__init__", defArgs s_NoYear_init, defBody s_NoYear_init, defScope s_NoYear_init, [], []⟩
def d_NoWeek_init : He.DefD := ⟨("NoWeek", some "__init__"), "__init__", "NoWeek.__init__", defArgs s_NoWeek_init, defBody s_NoWeek_init, defScope s_NoWeek_init, [], []⟩
def d_NoRow_init : He.DefD := ⟨("NoRow", some "__init__"), "__init__", "NoRow.__init__", defArgs s_NoRow_init, defBody s_NoRow_init, defScope s_NoRow_init, [], []⟩
def d_NoStay_init : He.DefD := ⟨("NoStay", some "__init__"), "__init__", "NoStay.__init__", defArgs s_NoStay_init, defBody s_NoStay_init, defScope s_NoStay_init, [], []⟩
def d_NoRests_init : He.DefD := ⟨("NoRests", some "__init__"), "__init__", "NoRests.__init__", defArgs s_NoRests_init, defBody s_NoRests_init, defScope s_NoRests_init, [], []⟩
def d_NoList_init : He.DefD := ⟨("NoList", some "__init__"), "__init__", "NoList.__init__", defArgs s_NoList_init, defBody s_NoList_init, defScope s_NoList_init, [], []⟩
def d_Doubled_init : He.DefD := ⟨("Doubled", some "__init__"), "__init__", "Doubled.__init__", defArgs s_Doubled_init, defBody s_Doubled_init, defScope s_Doubled_init, [], []⟩
def d_TooMany_init : He.DefD := ⟨("TooMany", some "__init__"), "__init__", "TooMany.__init__", defArgs s_TooMany_init, defBody s_TooMany_init, defScope s_TooMany_init, [], []⟩
def d_NotThere_init : He.DefD := ⟨("NotThere", some "__init__"), "__init__", "NotThere.__init__", defArgs s_NotThere_init, defBody s_NotThere_init, defScope s_NotThere_init, [], []⟩
def d_l_cell : He.DefD := ⟨("_law_cell", none), "_law_cell", "_law_cell", defArgs s_l_cell, defBody s_l_cell, defScope s_l_cell, [], []⟩
def d_l_box : He.DefD := ⟨("_law_box", none), "_law_box", "_law_box", defArgs s_l_box, defBody s_l_box, defScope s_l_box, [], []⟩
def d_l_take : He.DefD := ⟨("_law_take", none), "_law_take", "_law_take", defArgs s_l_take, defBody s_l_take, defScope s_l_take, [], []⟩
def d_l_thing : He.DefD := ⟨("_law_thing", none), "_law_thing", "_law_thing", defArgs s_l_thing, defBody s_l_thing, defScope s_l_thing, [], []⟩
def d_l_first : He.DefD := ⟨("_law_first", none), "_law_first", "_law_first", defArgs s_l_first, defBody s_l_first, defScope s_l_first, [], []⟩
def d_l_made : He.DefD := ⟨("_law_made", none), "_law_made", "_law_made", defArgs s_l_made, defBody s_l_made, defScope s_l_made, [], []⟩
def d_l_kinds : He.DefD := ⟨("_law_kinds", none), "_law_kinds", "_law_kinds", defArgs s_l_kinds, defBody s_l_kinds, defScope s_l_kinds, [], []⟩
def d_l_families : He.DefD := ⟨("_law_families", none), "_law_families", "_law_families", defArgs s_l_families, defBody s_l_families, defScope s_l_families, [], []⟩
def d_l_right : He.DefD := ⟨("_law_right", none), "_law_right", "_law_right", defArgs s_l_right, defBody s_l_right, defScope s_l_right, [], []⟩
def d_l_texts : He.DefD := ⟨("_law_texts", none), "_law_texts", "_law_texts", defArgs s_l_texts, defBody s_l_texts, defScope s_l_texts, [], []⟩
def d_law : He.DefD := ⟨("law", none), "law", "law", defArgs s_law, defBody s_law, defScope s_law, [], []⟩
def fn : List He.DefD := [d_NoName_init, d_NoNumber_init, d_NoSort_init, d_NoYear_init, d_NoWeek_init, d_NoRow_init, d_NoStay_init, d_NoRests_init, d_NoList_init, d_Doubled_init, d_TooMany_init, d_NotThere_init, d_l_cell, d_l_box, d_l_take, d_l_thing, d_l_first, d_l_made, d_l_kinds, d_l_families, d_l_right, d_l_texts, d_law]
def cs : List Str := ["WeekError", "MissError", "NoName", "NoNumber", "NoSort", "NoYear", "NoWeek", "NoRow", "NoStay", "NoRests", "NoList", "Doubled", "TooMany", "NotThere"]
def fx0 : List WA.Fx := [fun K => (He.Fa.glo "_law_cell").ok K, fun K => (He.Fa.glo "_law_box").ok K, fun K => (He.Fa.glo "_law_take").ok K, fun K => (He.Fa.glo "_law_thing").ok K, fun K => (He.Fa.glo "_law_first").ok K, fun K => (He.Fa.glo "_law_made").ok K, fun K => (He.Fa.glo "_law_kinds").ok K, fun K => (He.Fa.glo "_law_families").ok K, fun K => (He.Fa.glo "_law_right").ok K, fun K => (He.Fa.glo "_law_texts").ok K, fun K => (He.Fa.glo "law").ok K, fun K => (He.Fa.free "len").ok K, fun K => (He.Fa.free "isinstance").ok K, fun K => (He.Fa.free "repr").ok K, fun K => (He.Fa.free "range").ok K, fun K => (He.Fa.free "max").ok K, fun K => (He.Fa.free "min").ok K, fun K => (He.Fa.free "str").ok K, fun K => (He.Fa.free "list").ok K, fun K => (He.Fa.free "dict").ok K, fun K => (He.Fa.free "ValueError").ok K, fun K => (He.Fa.free "LookupError").ok K, fun K => (He.Fa.free "KeyError").ok K, fun K => (He.Fa.glo "WeekError").ok K, Wk.sixB "WeekError", Wk.XG.exbG Wk.XG.ve "WeekError", Wk.XG.kvB "WeekError" "ValueError" true, Wk.XG.kvB "WeekError" "LookupError" false, Wk.XG.kvB "WeekError" "KeyError" false, fun K => (He.Fa.glo "MissError").ok K, Wk.sixB "MissError", Wk.XG.exbG Wk.XG.le "MissError", Wk.XG.kvB "MissError" "ValueError" false, Wk.XG.kvB "MissError" "LookupError" true, Wk.XG.kvB "MissError" "KeyError" false, fun K => (He.Fa.glo "NoName").ok K, Wk.sixB "NoName", Wk.XG.exkG Wk.XG.ve "found" "NoName", Wk.exkB "NoName", Wk.exqB "NoName"]
def fx1 : List WA.Fx := [Wk.XG.kvB "NoName" "ValueError" true, Wk.XG.kvB "NoName" "LookupError" false, Wk.XG.kvB "NoName" "KeyError" false, fun K => (He.Fa.glo "NoNumber").ok K, Wk.sixB "NoNumber", Wk.XG.exkG Wk.XG.ve "found" "NoNumber", Wk.XG.kvB "NoNumber" "ValueError" true, Wk.XG.kvB "NoNumber" "LookupError" false, Wk.XG.kvB "NoNumber" "KeyError" false, fun K => (He.Fa.glo "NoSort").ok K, Wk.sixB "NoSort", Wk.XG.exkG Wk.XG.ve "found" "NoSort", Wk.XG.kvB "NoSort" "ValueError" true, Wk.XG.kvB "NoSort" "LookupError" false, Wk.XG.kvB "NoSort" "KeyError" false, fun K => (He.Fa.glo "NoYear").ok K, Wk.sixB "NoYear", Wk.XG.exkG Wk.XG.ve "found" "NoYear", Wk.XG.kvB "NoYear" "ValueError" true, Wk.XG.kvB "NoYear" "LookupError" false, Wk.XG.kvB "NoYear" "KeyError" false, fun K => (He.Fa.glo "NoWeek").ok K, Wk.sixB "NoWeek", Wk.XG.exkG Wk.XG.ve "found" "NoWeek", Wk.XG.kvB "NoWeek" "ValueError" true, Wk.XG.kvB "NoWeek" "LookupError" false, Wk.XG.kvB "NoWeek" "KeyError" false, fun K => (He.Fa.glo "NoRow").ok K, Wk.sixB "NoRow", Wk.XG.exkG Wk.XG.ve "found" "NoRow", Wk.XG.kvB "NoRow" "ValueError" true, Wk.XG.kvB "NoRow" "LookupError" false, Wk.XG.kvB "NoRow" "KeyError" false, fun K => (He.Fa.glo "NoStay").ok K, Wk.sixB "NoStay", Wk.XG.exkG Wk.XG.ve "found" "NoStay", Wk.XG.kvB "NoStay" "ValueError" true, Wk.XG.kvB "NoStay" "LookupError" false, Wk.XG.kvB "NoStay" "KeyError" false, fun K => (He.Fa.glo "NoRests").ok K]
def fx2 : List WA.Fx := [Wk.sixB "NoRests", Wk.XG.exkG Wk.XG.ve "found" "NoRests", Wk.XG.kvB "NoRests" "ValueError" true, Wk.XG.kvB "NoRests" "LookupError" false, Wk.XG.kvB "NoRests" "KeyError" false, fun K => (He.Fa.glo "NoList").ok K, Wk.sixB "NoList", Wk.XG.exkG Wk.XG.ve "found" "NoList", Wk.XG.kvB "NoList" "ValueError" true, Wk.XG.kvB "NoList" "LookupError" false, Wk.XG.kvB "NoList" "KeyError" false, fun K => (He.Fa.glo "Doubled").ok K, Wk.sixB "Doubled", Wk.XG.exkG Wk.XG.ve "found" "Doubled", Wk.XG.kvB "Doubled" "ValueError" true, Wk.XG.kvB "Doubled" "LookupError" false, Wk.XG.kvB "Doubled" "KeyError" false, fun K => (He.Fa.glo "TooMany").ok K, Wk.sixB "TooMany", Wk.XG.exkG Wk.XG.ve "many" "TooMany", Wk.XG.kvB "TooMany" "ValueError" true, Wk.XG.kvB "TooMany" "LookupError" false, Wk.XG.kvB "TooMany" "KeyError" false, fun K => (He.Fa.glo "NotThere").ok K, Wk.sixB "NotThere", Wk.XG.exkG Wk.XG.le "found" "NotThere", Wk.XG.kvB "NotThere" "ValueError" false, Wk.XG.kvB "NotThere" "LookupError" true, Wk.XG.kvB "NotThere" "KeyError" false, Wk.kbB "NoName", Wk.kiB "WeekError" "NoName" false, Wk.kiB "MissError" "NoName" false, Wk.kiB "NoName" "NoName" true, Wk.kiB "NoNumber" "NoName" false, Wk.kiB "NoSort" "NoName" false, Wk.kiB "NoYear" "NoName" false, Wk.kiB "NoWeek" "NoName" false, Wk.kiB "NoRow" "NoName" false, Wk.kiB "NoStay" "NoName" false, Wk.kiB "NoRests" "NoName" false]
def fx3 : List WA.Fx := [Wk.kiB "NoList" "NoName" false, Wk.kiB "Doubled" "NoName" false, Wk.kiB "TooMany" "NoName" false, Wk.kiB "NotThere" "NoName" false, Wk.kbB "NoNumber", Wk.kiB "WeekError" "NoNumber" false, Wk.kiB "MissError" "NoNumber" false, Wk.kiB "NoName" "NoNumber" false, Wk.kiB "NoNumber" "NoNumber" true, Wk.kiB "NoSort" "NoNumber" false, Wk.kiB "NoYear" "NoNumber" false, Wk.kiB "NoWeek" "NoNumber" false, Wk.kiB "NoRow" "NoNumber" false, Wk.kiB "NoStay" "NoNumber" false, Wk.kiB "NoRests" "NoNumber" false, Wk.kiB "NoList" "NoNumber" false, Wk.kiB "Doubled" "NoNumber" false, Wk.kiB "TooMany" "NoNumber" false, Wk.kiB "NotThere" "NoNumber" false, Wk.kbB "NoSort", Wk.kiB "WeekError" "NoSort" false, Wk.kiB "MissError" "NoSort" false, Wk.kiB "NoName" "NoSort" false, Wk.kiB "NoNumber" "NoSort" false, Wk.kiB "NoSort" "NoSort" true, Wk.kiB "NoYear" "NoSort" false, Wk.kiB "NoWeek" "NoSort" false, Wk.kiB "NoRow" "NoSort" false, Wk.kiB "NoStay" "NoSort" false, Wk.kiB "NoRests" "NoSort" false, Wk.kiB "NoList" "NoSort" false, Wk.kiB "Doubled" "NoSort" false, Wk.kiB "TooMany" "NoSort" false, Wk.kiB "NotThere" "NoSort" false, Wk.kbB "NoYear", Wk.kiB "WeekError" "NoYear" false, Wk.kiB "MissError" "NoYear" false, Wk.kiB "NoName" "NoYear" false, Wk.kiB "NoNumber" "NoYear" false, Wk.kiB "NoSort" "NoYear" false]
def fx4 : List WA.Fx := [Wk.kiB "NoYear" "NoYear" true, Wk.kiB "NoWeek" "NoYear" false, Wk.kiB "NoRow" "NoYear" false, Wk.kiB "NoStay" "NoYear" false, Wk.kiB "NoRests" "NoYear" false, Wk.kiB "NoList" "NoYear" false, Wk.kiB "Doubled" "NoYear" false, Wk.kiB "TooMany" "NoYear" false, Wk.kiB "NotThere" "NoYear" false, Wk.kbB "WeekError", Wk.kiB "WeekError" "WeekError" true, Wk.kiB "MissError" "WeekError" false, Wk.kiB "NoName" "WeekError" true, Wk.kiB "NoNumber" "WeekError" true, Wk.kiB "NoSort" "WeekError" true, Wk.kiB "NoYear" "WeekError" true, Wk.kiB "NoWeek" "WeekError" true, Wk.kiB "NoRow" "WeekError" true, Wk.kiB "NoStay" "WeekError" true, Wk.kiB "NoRests" "WeekError" true, Wk.kiB "NoList" "WeekError" true, Wk.kiB "Doubled" "WeekError" true, Wk.kiB "TooMany" "WeekError" true, Wk.kiB "NotThere" "WeekError" false, Wk.kbB "MissError", Wk.kiB "WeekError" "MissError" false, Wk.kiB "MissError" "MissError" true, Wk.kiB "NoName" "MissError" false, Wk.kiB "NoNumber" "MissError" false, Wk.kiB "NoSort" "MissError" false, Wk.kiB "NoYear" "MissError" false, Wk.kiB "NoWeek" "MissError" false, Wk.kiB "NoRow" "MissError" false, Wk.kiB "NoStay" "MissError" false, Wk.kiB "NoRests" "MissError" false, Wk.kiB "NoList" "MissError" false, Wk.kiB "Doubled" "MissError" false, Wk.kiB "TooMany" "MissError" false, Wk.kiB "NotThere" "MissError" true, Wk.kbB "NoWeek"]
def fx5 : List WA.Fx := [Wk.kiB "WeekError" "NoWeek" false, Wk.kiB "MissError" "NoWeek" false, Wk.kiB "NoName" "NoWeek" false, Wk.kiB "NoNumber" "NoWeek" false, Wk.kiB "NoSort" "NoWeek" false, Wk.kiB "NoYear" "NoWeek" false, Wk.kiB "NoWeek" "NoWeek" true, Wk.kiB "NoRow" "NoWeek" false, Wk.kiB "NoStay" "NoWeek" false, Wk.kiB "NoRests" "NoWeek" false, Wk.kiB "NoList" "NoWeek" false, Wk.kiB "Doubled" "NoWeek" false, Wk.kiB "TooMany" "NoWeek" false, Wk.kiB "NotThere" "NoWeek" false, Wk.kbB "NoRow", Wk.kiB "WeekError" "NoRow" false, Wk.kiB "MissError" "NoRow" false, Wk.kiB "NoName" "NoRow" false, Wk.kiB "NoNumber" "NoRow" false, Wk.kiB "NoSort" "NoRow" false, Wk.kiB "NoYear" "NoRow" false, Wk.kiB "NoWeek" "NoRow" false, Wk.kiB "NoRow" "NoRow" true, Wk.kiB "NoStay" "NoRow" false, Wk.kiB "NoRests" "NoRow" false, Wk.kiB "NoList" "NoRow" false, Wk.kiB "Doubled" "NoRow" false, Wk.kiB "TooMany" "NoRow" false, Wk.kiB "NotThere" "NoRow" false, Wk.kbB "NoStay", Wk.kiB "WeekError" "NoStay" false, Wk.kiB "MissError" "NoStay" false, Wk.kiB "NoName" "NoStay" false, Wk.kiB "NoNumber" "NoStay" false, Wk.kiB "NoSort" "NoStay" false, Wk.kiB "NoYear" "NoStay" false, Wk.kiB "NoWeek" "NoStay" false, Wk.kiB "NoRow" "NoStay" false, Wk.kiB "NoStay" "NoStay" true, Wk.kiB "NoRests" "NoStay" false]
def fx6 : List WA.Fx := [Wk.kiB "NoList" "NoStay" false, Wk.kiB "Doubled" "NoStay" false, Wk.kiB "TooMany" "NoStay" false, Wk.kiB "NotThere" "NoStay" false, Wk.kbB "NoRests", Wk.kiB "WeekError" "NoRests" false, Wk.kiB "MissError" "NoRests" false, Wk.kiB "NoName" "NoRests" false, Wk.kiB "NoNumber" "NoRests" false, Wk.kiB "NoSort" "NoRests" false, Wk.kiB "NoYear" "NoRests" false, Wk.kiB "NoWeek" "NoRests" false, Wk.kiB "NoRow" "NoRests" false, Wk.kiB "NoStay" "NoRests" false, Wk.kiB "NoRests" "NoRests" true, Wk.kiB "NoList" "NoRests" false, Wk.kiB "Doubled" "NoRests" false, Wk.kiB "TooMany" "NoRests" false, Wk.kiB "NotThere" "NoRests" false, Wk.kbB "NoList", Wk.kiB "WeekError" "NoList" false, Wk.kiB "MissError" "NoList" false, Wk.kiB "NoName" "NoList" false, Wk.kiB "NoNumber" "NoList" false, Wk.kiB "NoSort" "NoList" false, Wk.kiB "NoYear" "NoList" false, Wk.kiB "NoWeek" "NoList" false, Wk.kiB "NoRow" "NoList" false, Wk.kiB "NoStay" "NoList" false, Wk.kiB "NoRests" "NoList" false, Wk.kiB "NoList" "NoList" true, Wk.kiB "Doubled" "NoList" false, Wk.kiB "TooMany" "NoList" false, Wk.kiB "NotThere" "NoList" false, Wk.kbB "Doubled", Wk.kiB "WeekError" "Doubled" false, Wk.kiB "MissError" "Doubled" false, Wk.kiB "NoName" "Doubled" false, Wk.kiB "NoNumber" "Doubled" false, Wk.kiB "NoSort" "Doubled" false]
def fx7 : List WA.Fx := [Wk.kiB "NoYear" "Doubled" false, Wk.kiB "NoWeek" "Doubled" false, Wk.kiB "NoRow" "Doubled" false, Wk.kiB "NoStay" "Doubled" false, Wk.kiB "NoRests" "Doubled" false, Wk.kiB "NoList" "Doubled" false, Wk.kiB "Doubled" "Doubled" true, Wk.kiB "TooMany" "Doubled" false, Wk.kiB "NotThere" "Doubled" false, Wk.kbB "TooMany", Wk.kiB "WeekError" "TooMany" false, Wk.kiB "MissError" "TooMany" false, Wk.kiB "NoName" "TooMany" false, Wk.kiB "NoNumber" "TooMany" false, Wk.kiB "NoSort" "TooMany" false, Wk.kiB "NoYear" "TooMany" false, Wk.kiB "NoWeek" "TooMany" false, Wk.kiB "NoRow" "TooMany" false, Wk.kiB "NoStay" "TooMany" false, Wk.kiB "NoRests" "TooMany" false, Wk.kiB "NoList" "TooMany" false, Wk.kiB "Doubled" "TooMany" false, Wk.kiB "TooMany" "TooMany" true, Wk.kiB "NotThere" "TooMany" false, Wk.kbB "NotThere", Wk.kiB "WeekError" "NotThere" false, Wk.kiB "MissError" "NotThere" false, Wk.kiB "NoName" "NotThere" false, Wk.kiB "NoNumber" "NotThere" false, Wk.kiB "NoSort" "NotThere" false, Wk.kiB "NoYear" "NotThere" false, Wk.kiB "NoWeek" "NotThere" false, Wk.kiB "NoRow" "NotThere" false, Wk.kiB "NoStay" "NotThere" false, Wk.kiB "NoRests" "NotThere" false, Wk.kiB "NoList" "NotThere" false, Wk.kiB "Doubled" "NotThere" false, Wk.kiB "TooMany" "NotThere" false, Wk.kiB "NotThere" "NotThere" true, Wk.noList]
def fx8 : List WA.Fx := [fun K => (K.lookup sysModules).isSome]
def fx : List WA.Fx := fx0 ++ fx1 ++ fx2 ++ fx3 ++ fx4 ++ fx5 ++ fx6 ++ fx7 ++ fx8
abbrev a_NoName_init (K : PySem.W.Frag) : Addr := He.fAd K ("NoName", some "__init__")
abbrev a_NoNumber_init (K : PySem.W.Frag) : Addr := He.fAd K ("NoNumber", some "__init__")
abbrev a_NoSort_init (K : PySem.W.Frag) : Addr := He.fAd K ("NoSort", some "__init__")
abbrev a_NoYear_init (K : PySem.W.Frag) : Addr := He.fAd K ("NoYear", some "__init__")
abbrev a_NoWeek_init (K : PySem.W.Frag) : Addr := He.fAd K ("NoWeek", some "__init__")
abbrev a_NoRow_init (K : PySem.W.Frag) : Addr := He.fAd K ("NoRow", some "__init__")
abbrev a_NoStay_init (K : PySem.W.Frag) : Addr := He.fAd K ("NoStay", some "__init__")
abbrev a_NoRests_init (K : PySem.W.Frag) : Addr := He.fAd K ("NoRests", some "__init__")
abbrev a_NoList_init (K : PySem.W.Frag) : Addr := He.fAd K ("NoList", some "__init__")
abbrev a_Doubled_init (K : PySem.W.Frag) : Addr := He.fAd K ("Doubled", some "__init__")
abbrev a_TooMany_init (K : PySem.W.Frag) : Addr := He.fAd K ("TooMany", some "__init__")
abbrev a_NotThere_init (K : PySem.W.Frag) : Addr := He.fAd K ("NotThere", some "__init__")
abbrev a_l_cell (K : PySem.W.Frag) : Addr := He.fAd K ("_law_cell", none)
abbrev a_l_box (K : PySem.W.Frag) : Addr := He.fAd K ("_law_box", none)
abbrev a_l_take (K : PySem.W.Frag) : Addr := He.fAd K ("_law_take", none)
abbrev a_l_thing (K : PySem.W.Frag) : Addr := He.fAd K ("_law_thing", none)
abbrev a_l_first (K : PySem.W.Frag) : Addr := He.fAd K ("_law_first", none)
abbrev a_l_made (K : PySem.W.Frag) : Addr := He.fAd K ("_law_made", none)
abbrev a_l_kinds (K : PySem.W.Frag) : Addr := He.fAd K ("_law_kinds", none)
abbrev a_l_families (K : PySem.W.Frag) : Addr := He.fAd K ("_law_families", none)
abbrev a_l_right (K : PySem.W.Frag) : Addr := He.fAd K ("_law_right", none)
abbrev a_l_texts (K : PySem.W.Frag) : Addr := He.fAd K ("_law_texts", none)
abbrev a_law (K : PySem.W.Frag) : Addr := He.fAd K ("law", none)
structure Tx (K : PySem.W.Frag) (mg : Str → Option Value) : Prop where
  c : WA.SaysX fx fn K
  h : ∃ h : Heap, K.In h ∧ h.Ns mainGlobals mg
section
variable {K : PySem.W.Frag} {mg : Str → Option Value}
theorem Tx.glo (T : Tx K mg) {x : Str} (i : Nat) (h : fx[i]? = some (fun K => (He.Fa.glo x).ok K) := by rfl) : mg x = some (.ref (He.ga K x)) := let ⟨_, X, G⟩ := T.h; He.glo_ok X G (T.c.fact i h)
theorem Tx.free (T : Tx K mg) {x : Str} (i : Nat) (h : fx[i]? = some (fun K => (He.Fa.free x).ok K) := by rfl) : mg x = none := let ⟨_, X, G⟩ := T.h; He.free_ok X G (T.c.fact i h)
theorem Tx.int (T : Tx K mg) {x : Str} {z : Int} (i : Nat) (h : fx[i]? = some (fun K => (He.Fa.int x z).ok K) := by rfl) : ∃ t, mg x = some (.int z t) := let ⟨_, X, G⟩ := T.h; He.int_ok X G (T.c.fact i h)
theorem Tx.str (T : Tx K mg) {x z : Str} (i : Nat) (h : fx[i]? = some (fun K => (He.Fa.str x z).ok K) := by rfl) : ∃ t, mg x = some (.str z t) := let ⟨_, X, G⟩ := T.h; He.str_ok X G (T.c.fact i h)
theorem Tx.g_l_cell (T : Tx K mg) : mg "_law_cell" = some (.ref (a_l_cell K)) := T.glo (x := "_law_cell") 0
theorem Tx.g_l_box (T : Tx K mg) : mg "_law_box" = some (.ref (a_l_box K)) := T.glo (x := "_law_box") 1
theorem Tx.g_l_take (T : Tx K mg) : mg "_law_take" = some (.ref (a_l_take K)) := T.glo (x := "_law_take") 2
theorem Tx.g_l_thing (T : Tx K mg) : mg "_law_thing" = some (.ref (a_l_thing K)) := T.glo (x := "_law_thing") 3
theorem Tx.g_l_first (T : Tx K mg) : mg "_law_first" = some (.ref (a_l_first K)) := T.glo (x := "_law_first") 4
theorem Tx.g_l_made (T : Tx K mg) : mg "_law_made" = some (.ref (a_l_made K)) := T.glo (x := "_law_made") 5
theorem Tx.g_l_kinds (T : Tx K mg) : mg "_law_kinds" = some (.ref (a_l_kinds K)) := T.glo (x := "_law_kinds") 6
theorem Tx.g_l_families (T : Tx K mg) : mg "_law_families" = some (.ref (a_l_families K)) := T.glo (x := "_law_families") 7
theorem Tx.g_l_right (T : Tx K mg) : mg "_law_right" = some (.ref (a_l_right K)) := T.glo (x := "_law_right") 8
theorem Tx.g_l_texts (T : Tx K mg) : mg "_law_texts" = some (.ref (a_l_texts K)) := T.glo (x := "_law_texts") 9
theorem Tx.g_law (T : Tx K mg) : mg "law" = some (.ref (a_law K)) := T.glo (x := "law") 10
theorem Tx.n_len (T : Tx K mg) : mg "len" = none := T.free (x := "len") 11
theorem Tx.n_isinstance (T : Tx K mg) : mg "isinstance" = none := T.free (x := "isinstance") 12
theorem Tx.n_repr (T : Tx K mg) : mg "repr" = none := T.free (x := "repr") 13
theorem Tx.n_range (T : Tx K mg) : mg "range" = none := T.free (x := "range") 14
theorem Tx.n_max (T : Tx K mg) : mg "max" = none := T.free (x := "max") 15
theorem Tx.n_min (T : Tx K mg) : mg "min" = none := T.free (x := "min") 16
theorem Tx.n_str (T : Tx K mg) : mg "str" = none := T.free (x := "str") 17
theorem Tx.n_list (T : Tx K mg) : mg "list" = none := T.free (x := "list") 18
theorem Tx.n_dict (T : Tx K mg) : mg "dict" = none := T.free (x := "dict") 19
theorem Tx.n_ValueError (T : Tx K mg) : mg "ValueError" = none := T.free (x := "ValueError") 20
theorem Tx.n_LookupError (T : Tx K mg) : mg "LookupError" = none := T.free (x := "LookupError") 21
theorem Tx.n_KeyError (T : Tx K mg) : mg "KeyError" = none := T.free (x := "KeyError") 22
theorem Tx.g_WeekError (T : Tx K mg) : mg "WeekError" = some (.ref (He.ga K "WeekError")) := T.glo (x := "WeekError") 23
theorem Tx.six_WeekError (T : Tx K mg) : Six K (He.ga K "WeekError") := six_ok (T.c.fact 24)
theorem Tx.y_WeekError (T : Tx K mg) : XG.ExBG XG.ve K mg "WeekError" (He.ga K "WeekError") := let ⟨_, X, G⟩ := T.h; XG.exbG_ok XG.ve_ok X G (T.c.fact 23 (f := fun K => (He.Fa.glo "WeekError").ok K)) (T.c.fact 25)
theorem Tx.kv_WeekError_ValueError (T : Tx K mg) : PySem.W.kitOne K (.ref (He.ga K "WeekError")) (.type "ValueError") = some true := of_decide_eq_true (T.c.fact 26 (f := Wk.XG.kvB "WeekError" "ValueError" true))
theorem Tx.kv_WeekError_LookupError (T : Tx K mg) : PySem.W.kitOne K (.ref (He.ga K "WeekError")) (.type "LookupError") = some false := of_decide_eq_true (T.c.fact 27 (f := Wk.XG.kvB "WeekError" "LookupError" false))
theorem Tx.kv_WeekError_KeyError (T : Tx K mg) : PySem.W.kitOne K (.ref (He.ga K "WeekError")) (.type "KeyError") = some false := of_decide_eq_true (T.c.fact 28 (f := Wk.XG.kvB "WeekError" "KeyError" false))
theorem Tx.g_MissError (T : Tx K mg) : mg "MissError" = some (.ref (He.ga K "MissError")) := T.glo (x := "MissError") 29
theorem Tx.six_MissError (T : Tx K mg) : Six K (He.ga K "MissError") := six_ok (T.c.fact 30)
theorem Tx.y_MissError (T : Tx K mg) : XG.ExBG XG.le K mg "MissError" (He.ga K "MissError") := let ⟨_, X, G⟩ := T.h; XG.exbG_ok XG.le_ok X G (T.c.fact 29 (f := fun K => (He.Fa.glo "MissError").ok K)) (T.c.fact 31)
theorem Tx.kv_MissError_ValueError (T : Tx K mg) : PySem.W.kitOne K (.ref (He.ga K "MissError")) (.type "ValueError") = some false := of_decide_eq_true (T.c.fact 32 (f := Wk.XG.kvB "MissError" "ValueError" false))
theorem Tx.kv_MissError_LookupError (T : Tx K mg) : PySem.W.kitOne K (.ref (He.ga K "MissError")) (.type "LookupError") = some true := of_decide_eq_true (T.c.fact 33 (f := Wk.XG.kvB "MissError" "LookupError" true))
theorem Tx.kv_MissError_KeyError (T : Tx K mg) : PySem.W.kitOne K (.ref (He.ga K "MissError")) (.type "KeyError") = some false := of_decide_eq_true (T.c.fact 34 (f := Wk.XG.kvB "MissError" "KeyError" false))
theorem Tx.g_NoName (T : Tx K mg) : mg "NoName" = some (.ref (He.ga K "NoName")) := T.glo (x := "NoName") 35
theorem Tx.six_NoName (T : Tx K mg) : Six K (He.ga K "NoName") := six_ok (T.c.fact 36)
theorem Tx.x_NoName (T : Tx K mg) : XG.ExG XG.ve "found" K mg "NoName" (He.ga K "NoName") (a_NoName_init K) := let ⟨_, X, G⟩ := T.h; XG.exkG_ok XG.ve_ok X G (T.c.fact 35 (f := fun K => (He.Fa.glo "NoName").ok K)) (T.c.fact 37)
theorem Tx.xx_NoName (T : Tx K mg) : ExK K mg "NoName" (He.ga K "NoName") (a_NoName_init K) := let ⟨_, X, G⟩ := T.h; exk_ok X G (T.c.fact 35 (f := fun K => (He.Fa.glo "NoName").ok K)) (T.c.fact 38)
theorem Tx.q_NoName (T : Tx K mg) : ExQ K (He.ga K "NoName") := exq_ok2 T.xx_NoName (T.c.fact 39 (f := Wk.exqB "NoName"))
theorem Tx.kv_NoName_ValueError (T : Tx K mg) : PySem.W.kitOne K (.ref (He.ga K "NoName")) (.type "ValueError") = some true := of_decide_eq_true (T.c.fact 40 (f := Wk.XG.kvB "NoName" "ValueError" true))
theorem Tx.kv_NoName_LookupError (T : Tx K mg) : PySem.W.kitOne K (.ref (He.ga K "NoName")) (.type "LookupError") = some false := of_decide_eq_true (T.c.fact 41 (f := Wk.XG.kvB "NoName" "LookupError" false))
theorem Tx.kv_NoName_KeyError (T : Tx K mg) : PySem.W.kitOne K (.ref (He.ga K "NoName")) (.type "KeyError") = some false := of_decide_eq_true (T.c.fact 42 (f := Wk.XG.kvB "NoName" "KeyError" false))
theorem Tx.g_NoNumber (T : Tx K mg) : mg "NoNumber" = some (.ref (He.ga K "NoNumber")) := T.glo (x := "NoNumber") 43
theorem Tx.six_NoNumber (T : Tx K mg) : Six K (He.ga K "NoNumber") := six_ok (T.c.fact 44)
theorem Tx.x_NoNumber (T : Tx K mg) : XG.ExG XG.ve "found" K mg "NoNumber" (He.ga K "NoNumber") (a_NoNumber_init K) := let ⟨_, X, G⟩ := T.h; XG.exkG_ok XG.ve_ok X G (T.c.fact 43 (f := fun K => (He.Fa.glo "NoNumber").ok K)) (T.c.fact 45)
theorem Tx.kv_NoNumber_ValueError (T : Tx K mg) : PySem.W.kitOne K (.ref (He.ga K "NoNumber")) (.type "ValueError") = some true := of_decide_eq_true (T.c.fact 46 (f := Wk.XG.kvB "NoNumber" "ValueError" true))
theorem Tx.kv_NoNumber_LookupError (T : Tx K mg) : PySem.W.kitOne K (.ref (He.ga K "NoNumber")) (.type "LookupError") = some false := of_decide_eq_true (T.c.fact 47 (f := Wk.XG.kvB "NoNumber" "LookupError" false))
theorem Tx.kv_NoNumber_KeyError (T : Tx K mg) : PySem.W.kitOne K (.ref (He.ga K "NoNumber")) (.type "KeyError") = some false := of_decide_eq_true (T.c.fact 48 (f := Wk.XG.kvB "NoNumber" "KeyError" false))
theorem Tx.g_NoSort (T : Tx K mg) : mg "NoSort" = some (.ref (He.ga K "NoSort")) := T.glo (x := "NoSort") 49
theorem Tx.six_NoSort (T : Tx K mg) : Six K (He.ga K "NoSort") := six_ok (T.c.fact 50)
theorem Tx.x_NoSort (T : Tx K mg) : XG.ExG XG.ve "found" K mg "NoSort" (He.ga K "NoSort") (a_NoSort_init K) := let ⟨_, X, G⟩ := T.h; XG.exkG_ok XG.ve_ok X G (T.c.fact 49 (f := fun K => (He.Fa.glo "NoSort").ok K)) (T.c.fact 51)
theorem Tx.kv_NoSort_ValueError (T : Tx K mg) : PySem.W.kitOne K (.ref (He.ga K "NoSort")) (.type "ValueError") = some true := of_decide_eq_true (T.c.fact 52 (f := Wk.XG.kvB "NoSort" "ValueError" true))
theorem Tx.kv_NoSort_LookupError (T : Tx K mg) : PySem.W.kitOne K (.ref (He.ga K "NoSort")) (.type "LookupError") = some false := of_decide_eq_true (T.c.fact 53 (f := Wk.XG.kvB "NoSort" "LookupError" false))
theorem Tx.kv_NoSort_KeyError (T : Tx K mg) : PySem.W.kitOne K (.ref (He.ga K "NoSort")) (.type "KeyError") = some false := of_decide_eq_true (T.c.fact 54 (f := Wk.XG.kvB "NoSort" "KeyError" false))
theorem Tx.g_NoYear (T : Tx K mg) : mg "NoYear" = some (.ref (He.ga K "NoYear")) := T.glo (x := "NoYear") 55
theorem Tx.six_NoYear (T : Tx K mg) : Six K (He.ga K "NoYear") := six_ok (T.c.fact 56)
theorem Tx.x_NoYear (T : Tx K mg) : XG.ExG XG.ve "found" K mg "NoYear" (He.ga K "NoYear") (a_NoYear_init K) := let ⟨_, X, G⟩ := T.h; XG.exkG_ok XG.ve_ok X G (T.c.fact 55 (f := fun K => (He.Fa.glo "NoYear").ok K)) (T.c.fact 57)
theorem Tx.kv_NoYear_ValueError (T : Tx K mg) : PySem.W.kitOne K (.ref (He.ga K "NoYear")) (.type "ValueError") = some true := of_decide_eq_true (T.c.fact 58 (f := Wk.XG.kvB "NoYear" "ValueError" true))
theorem Tx.kv_NoYear_LookupError (T : Tx K mg) : PySem.W.kitOne K (.ref (He.ga K "NoYear")) (.type "LookupError") = some false := of_decide_eq_true (T.c.fact 59 (f := Wk.XG.kvB "NoYear" "LookupError" false))
theorem Tx.kv_NoYear_KeyError (T : Tx K mg) : PySem.W.kitOne K (.ref (He.ga K "NoYear")) (.type "KeyError") = some false := of_decide_eq_true (T.c.fact 60 (f := Wk.XG.kvB "NoYear" "KeyError" false))
theorem Tx.g_NoWeek (T : Tx K mg) : mg "NoWeek" = some (.ref (He.ga K "NoWeek")) := T.glo (x := "NoWeek") 61
theorem Tx.six_NoWeek (T : Tx K mg) : Six K (He.ga K "NoWeek") := six_ok (T.c.fact 62)
theorem Tx.x_NoWeek (T : Tx K mg) : XG.ExG XG.ve "found" K mg "NoWeek" (He.ga K "NoWeek") (a_NoWeek_init K) := let ⟨_, X, G⟩ := T.h; XG.exkG_ok XG.ve_ok X G (T.c.fact 61 (f := fun K => (He.Fa.glo "NoWeek").ok K)) (T.c.fact 63)
theorem Tx.kv_NoWeek_ValueError (T : Tx K mg) : PySem.W.kitOne K (.ref (He.ga K "NoWeek")) (.type "ValueError") = some true := of_decide_eq_true (T.c.fact 64 (f := Wk.XG.kvB "NoWeek" "ValueError" true))
theorem Tx.kv_NoWeek_LookupError (T : Tx K mg) : PySem.W.kitOne K (.ref (He.ga K "NoWeek")) (.type "LookupError") = some false := of_decide_eq_true (T.c.fact 65 (f := Wk.XG.kvB "NoWeek" "LookupError" false))
theorem Tx.kv_NoWeek_KeyError (T : Tx K mg) : PySem.W.kitOne K (.ref (He.ga K "NoWeek")) (.type "KeyError") = some false := of_decide_eq_true (T.c.fact 66 (f := Wk.XG.kvB "NoWeek" "KeyError" false))
theorem Tx.g_NoRow (T : Tx K mg) : mg "NoRow" = some (.ref (He.ga K "NoRow")) := T.glo (x := "NoRow") 67
theorem Tx.six_NoRow (T : Tx K mg) : Six K (He.ga K "NoRow") := six_ok (T.c.fact 68)
theorem Tx.x_NoRow (T : Tx K mg) : XG.ExG XG.ve "found" K mg "NoRow" (He.ga K "NoRow") (a_NoRow_init K) := let ⟨_, X, G⟩ := T.h; XG.exkG_ok XG.ve_ok X G (T.c.fact 67 (f := fun K => (He.Fa.glo "NoRow").ok K)) (T.c.fact 69)
theorem Tx.kv_NoRow_ValueError (T : Tx K mg) : PySem.W.kitOne K (.ref (He.ga K "NoRow")) (.type "ValueError") = some true := of_decide_eq_true (T.c.fact 70 (f := Wk.XG.kvB "NoRow" "ValueError" true))
theorem Tx.kv_NoRow_LookupError (T : Tx K mg) : PySem.W.kitOne K (.ref (He.ga K "NoRow")) (.type "LookupError") = some false := of_decide_eq_true (T.c.fact 71 (f := Wk.XG.kvB "NoRow" "LookupError" false))
theorem Tx.kv_NoRow_KeyError (T : Tx K mg) : PySem.W.kitOne K (.ref (He.ga K "NoRow")) (.type "KeyError") = some false := of_decide_eq_true (T.c.fact 72 (f := Wk.XG.kvB "NoRow" "KeyError" false))
theorem Tx.g_NoStay (T : Tx K mg) : mg "NoStay" = some (.ref (He.ga K "NoStay")) := T.glo (x := "NoStay") 73
theorem Tx.six_NoStay (T : Tx K mg) : Six K (He.ga K "NoStay") := six_ok (T.c.fact 74)
theorem Tx.x_NoStay (T : Tx K mg) : XG.ExG XG.ve "found" K mg "NoStay" (He.ga K "NoStay") (a_NoStay_init K) := let ⟨_, X, G⟩ := T.h; XG.exkG_ok XG.ve_ok X G (T.c.fact 73 (f := fun K => (He.Fa.glo "NoStay").ok K)) (T.c.fact 75)
theorem Tx.kv_NoStay_ValueError (T : Tx K mg) : PySem.W.kitOne K (.ref (He.ga K "NoStay")) (.type "ValueError") = some true := of_decide_eq_true (T.c.fact 76 (f := Wk.XG.kvB "NoStay" "ValueError" true))
theorem Tx.kv_NoStay_LookupError (T : Tx K mg) : PySem.W.kitOne K (.ref (He.ga K "NoStay")) (.type "LookupError") = some false := of_decide_eq_true (T.c.fact 77 (f := Wk.XG.kvB "NoStay" "LookupError" false))
theorem Tx.kv_NoStay_KeyError (T : Tx K mg) : PySem.W.kitOne K (.ref (He.ga K "NoStay")) (.type "KeyError") = some false := of_decide_eq_true (T.c.fact 78 (f := Wk.XG.kvB "NoStay" "KeyError" false))
theorem Tx.g_NoRests (T : Tx K mg) : mg "NoRests" = some (.ref (He.ga K "NoRests")) := T.glo (x := "NoRests") 79
theorem Tx.six_NoRests (T : Tx K mg) : Six K (He.ga K "NoRests") := six_ok (T.c.fact 80)
theorem Tx.x_NoRests (T : Tx K mg) : XG.ExG XG.ve "found" K mg "NoRests" (He.ga K "NoRests") (a_NoRests_init K) := let ⟨_, X, G⟩ := T.h; XG.exkG_ok XG.ve_ok X G (T.c.fact 79 (f := fun K => (He.Fa.glo "NoRests").ok K)) (T.c.fact 81)
theorem Tx.kv_NoRests_ValueError (T : Tx K mg) : PySem.W.kitOne K (.ref (He.ga K "NoRests")) (.type "ValueError") = some true := of_decide_eq_true (T.c.fact 82 (f := Wk.XG.kvB "NoRests" "ValueError" true))
theorem Tx.kv_NoRests_LookupError (T : Tx K mg) : PySem.W.kitOne K (.ref (He.ga K "NoRests")) (.type "LookupError") = some false := of_decide_eq_true (T.c.fact 83 (f := Wk.XG.kvB "NoRests" "LookupError" false))
theorem Tx.kv_NoRests_KeyError (T : Tx K mg) : PySem.W.kitOne K (.ref (He.ga K "NoRests")) (.type "KeyError") = some false := of_decide_eq_true (T.c.fact 84 (f := Wk.XG.kvB "NoRests" "KeyError" false))
theorem Tx.g_NoList (T : Tx K mg) : mg "NoList" = some (.ref (He.ga K "NoList")) := T.glo (x := "NoList") 85
theorem Tx.six_NoList (T : Tx K mg) : Six K (He.ga K "NoList") := six_ok (T.c.fact 86)
theorem Tx.x_NoList (T : Tx K mg) : XG.ExG XG.ve "found" K mg "NoList" (He.ga K "NoList") (a_NoList_init K) := let ⟨_, X, G⟩ := T.h; XG.exkG_ok XG.ve_ok X G (T.c.fact 85 (f := fun K => (He.Fa.glo "NoList").ok K)) (T.c.fact 87)
theorem Tx.kv_NoList_ValueError (T : Tx K mg) : PySem.W.kitOne K (.ref (He.ga K "NoList")) (.type "ValueError") = some true := of_decide_eq_true (T.c.fact 88 (f := Wk.XG.kvB "NoList" "ValueError" true))
theorem Tx.kv_NoList_LookupError (T : Tx K mg) : PySem.W.kitOne K (.ref (He.ga K "NoList")) (.type "LookupError") = some false := of_decide_eq_true (T.c.fact 89 (f := Wk.XG.kvB "NoList" "LookupError" false))
theorem Tx.kv_NoList_KeyError (T : Tx K mg) : PySem.W.kitOne K (.ref (He.ga K "NoList")) (.type "KeyError") = some false := of_decide_eq_true (T.c.fact 90 (f := Wk.XG.kvB "NoList" "KeyError" false))
theorem Tx.g_Doubled (T : Tx K mg) : mg "Doubled" = some (.ref (He.ga K "Doubled")) := T.glo (x := "Doubled") 91
theorem Tx.six_Doubled (T : Tx K mg) : Six K (He.ga K "Doubled") := six_ok (T.c.fact 92)
theorem Tx.x_Doubled (T : Tx K mg) : XG.ExG XG.ve "found" K mg "Doubled" (He.ga K "Doubled") (a_Doubled_init K) := let ⟨_, X, G⟩ := T.h; XG.exkG_ok XG.ve_ok X G (T.c.fact 91 (f := fun K => (He.Fa.glo "Doubled").ok K)) (T.c.fact 93)
theorem Tx.kv_Doubled_ValueError (T : Tx K mg) : PySem.W.kitOne K (.ref (He.ga K "Doubled")) (.type "ValueError") = some true := of_decide_eq_true (T.c.fact 94 (f := Wk.XG.kvB "Doubled" "ValueError" true))
theorem Tx.kv_Doubled_LookupError (T : Tx K mg) : PySem.W.kitOne K (.ref (He.ga K "Doubled")) (.type "LookupError") = some false := of_decide_eq_true (T.c.fact 95 (f := Wk.XG.kvB "Doubled" "LookupError" false))
theorem Tx.kv_Doubled_KeyError (T : Tx K mg) : PySem.W.kitOne K (.ref (He.ga K "Doubled")) (.type "KeyError") = some false := of_decide_eq_true (T.c.fact 96 (f := Wk.XG.kvB "Doubled" "KeyError" false))
theorem Tx.g_TooMany (T : Tx K mg) : mg "TooMany" = some (.ref (He.ga K "TooMany")) := T.glo (x := "TooMany") 97
theorem Tx.six_TooMany (T : Tx K mg) : Six K (He.ga K "TooMany") := six_ok (T.c.fact 98)
theorem Tx.x_TooMany (T : Tx K mg) : XG.ExG XG.ve "many" K mg "TooMany" (He.ga K "TooMany") (a_TooMany_init K) := let ⟨_, X, G⟩ := T.h; XG.exkG_ok XG.ve_ok X G (T.c.fact 97 (f := fun K => (He.Fa.glo "TooMany").ok K)) (T.c.fact 99)
theorem Tx.kv_TooMany_ValueError (T : Tx K mg) : PySem.W.kitOne K (.ref (He.ga K "TooMany")) (.type "ValueError") = some true := of_decide_eq_true (T.c.fact 100 (f := Wk.XG.kvB "TooMany" "ValueError" true))
theorem Tx.kv_TooMany_LookupError (T : Tx K mg) : PySem.W.kitOne K (.ref (He.ga K "TooMany")) (.type "LookupError") = some false := of_decide_eq_true (T.c.fact 101 (f := Wk.XG.kvB "TooMany" "LookupError" false))
theorem Tx.kv_TooMany_KeyError (T : Tx K mg) : PySem.W.kitOne K (.ref (He.ga K "TooMany")) (.type "KeyError") = some false := of_decide_eq_true (T.c.fact 102 (f := Wk.XG.kvB "TooMany" "KeyError" false))
theorem Tx.g_NotThere (T : Tx K mg) : mg "NotThere" = some (.ref (He.ga K "NotThere")) := T.glo (x := "NotThere") 103
theorem Tx.six_NotThere (T : Tx K mg) : Six K (He.ga K "NotThere") := six_ok (T.c.fact 104)
theorem Tx.x_NotThere (T : Tx K mg) : XG.ExG XG.le "found" K mg "NotThere" (He.ga K "NotThere") (a_NotThere_init K) := let ⟨_, X, G⟩ := T.h; XG.exkG_ok XG.le_ok X G (T.c.fact 103 (f := fun K => (He.Fa.glo "NotThere").ok K)) (T.c.fact 105)
theorem Tx.kv_NotThere_ValueError (T : Tx K mg) : PySem.W.kitOne K (.ref (He.ga K "NotThere")) (.type "ValueError") = some false := of_decide_eq_true (T.c.fact 106 (f := Wk.XG.kvB "NotThere" "ValueError" false))
theorem Tx.kv_NotThere_LookupError (T : Tx K mg) : PySem.W.kitOne K (.ref (He.ga K "NotThere")) (.type "LookupError") = some true := of_decide_eq_true (T.c.fact 107 (f := Wk.XG.kvB "NotThere" "LookupError" true))
theorem Tx.kv_NotThere_KeyError (T : Tx K mg) : PySem.W.kitOne K (.ref (He.ga K "NotThere")) (.type "KeyError") = some false := of_decide_eq_true (T.c.fact 108 (f := Wk.XG.kvB "NotThere" "KeyError" false))
theorem Tx.kb_NoName (T : Tx K mg) {n : String} (h : n ∈ seven) : PySem.W.kitOne K (.type n) (.ref (He.ga K "NoName")) = some false := of_decide_eq_true (List.all_eq_true.mp (T.c.fact 109 (f := Wk.kbB "NoName")) n h)
theorem Tx.ki_WeekError_NoName (T : Tx K mg) : PySem.W.kitOne K (.ref (He.ga K "WeekError")) (.ref (He.ga K "NoName")) = some false := of_decide_eq_true (T.c.fact 110 (f := Wk.kiB "WeekError" "NoName" false))
theorem Tx.ki_MissError_NoName (T : Tx K mg) : PySem.W.kitOne K (.ref (He.ga K "MissError")) (.ref (He.ga K "NoName")) = some false := of_decide_eq_true (T.c.fact 111 (f := Wk.kiB "MissError" "NoName" false))
theorem Tx.ki_NoName_NoName (T : Tx K mg) : PySem.W.kitOne K (.ref (He.ga K "NoName")) (.ref (He.ga K "NoName")) = some true := of_decide_eq_true (T.c.fact 112 (f := Wk.kiB "NoName" "NoName" true))
theorem Tx.ki_NoNumber_NoName (T : Tx K mg) : PySem.W.kitOne K (.ref (He.ga K "NoNumber")) (.ref (He.ga K "NoName")) = some false := of_decide_eq_true (T.c.fact 113 (f := Wk.kiB "NoNumber" "NoName" false))
theorem Tx.ki_NoSort_NoName (T : Tx K mg) : PySem.W.kitOne K (.ref (He.ga K "NoSort")) (.ref (He.ga K "NoName")) = some false := of_decide_eq_true (T.c.fact 114 (f := Wk.kiB "NoSort" "NoName" false))
theorem Tx.ki_NoYear_NoName (T : Tx K mg) : PySem.W.kitOne K (.ref (He.ga K "NoYear")) (.ref (He.ga K "NoName")) = some false := of_decide_eq_true (T.c.fact 115 (f := Wk.kiB "NoYear" "NoName" false))
theorem Tx.ki_NoWeek_NoName (T : Tx K mg) : PySem.W.kitOne K (.ref (He.ga K "NoWeek")) (.ref (He.ga K "NoName")) = some false := of_decide_eq_true (T.c.fact 116 (f := Wk.kiB "NoWeek" "NoName" false))
theorem Tx.ki_NoRow_NoName (T : Tx K mg) : PySem.W.kitOne K (.ref (He.ga K "NoRow")) (.ref (He.ga K "NoName")) = some false := of_decide_eq_true (T.c.fact 117 (f := Wk.kiB "NoRow" "NoName" false))
theorem Tx.ki_NoStay_NoName (T : Tx K mg) : PySem.W.kitOne K (.ref (He.ga K "NoStay")) (.ref (He.ga K "NoName")) = some false := of_decide_eq_true (T.c.fact 118 (f := Wk.kiB "NoStay" "NoName" false))
theorem Tx.ki_NoRests_NoName (T : Tx K mg) : PySem.W.kitOne K (.ref (He.ga K "NoRests")) (.ref (He.ga K "NoName")) = some false := of_decide_eq_true (T.c.fact 119 (f := Wk.kiB "NoRests" "NoName" false))
theorem Tx.ki_NoList_NoName (T : Tx K mg) : PySem.W.kitOne K (.ref (He.ga K "NoList")) (.ref (He.ga K "NoName")) = some false := of_decide_eq_true (T.c.fact 120 (f := Wk.kiB "NoList" "NoName" false))
theorem Tx.ki_Doubled_NoName (T : Tx K mg) : PySem.W.kitOne K (.ref (He.ga K "Doubled")) (.ref (He.ga K "NoName")) = some false := of_decide_eq_true (T.c.fact 121 (f := Wk.kiB "Doubled" "NoName" false))
theorem Tx.ki_TooMany_NoName (T : Tx K mg) : PySem.W.kitOne K (.ref (He.ga K "TooMany")) (.ref (He.ga K "NoName")) = some false := of_decide_eq_true (T.c.fact 122 (f := Wk.kiB "TooMany" "NoName" false))
theorem Tx.ki_NotThere_NoName (T : Tx K mg) : PySem.W.kitOne K (.ref (He.ga K "NotThere")) (.ref (He.ga K "NoName")) = some false := of_decide_eq_true (T.c.fact 123 (f := Wk.kiB "NotThere" "NoName" false))
theorem Tx.kb_NoNumber (T : Tx K mg) {n : String} (h : n ∈ seven) : PySem.W.kitOne K (.type n) (.ref (He.ga K "NoNumber")) = some false := of_decide_eq_true (List.all_eq_true.mp (T.c.fact 124 (f := Wk.kbB "NoNumber")) n h)
theorem Tx.ki_WeekError_NoNumber (T : Tx K mg) : PySem.W.kitOne K (.ref (He.ga K "WeekError")) (.ref (He.ga K "NoNumber")) = some false := of_decide_eq_true (T.c.fact 125 (f := Wk.kiB "WeekError" "NoNumber" false))
theorem Tx.ki_MissError_NoNumber (T : Tx K mg) : PySem.W.kitOne K (.ref (He.ga K "MissError")) (.ref (He.ga K "NoNumber")) = some false := of_decide_eq_true (T.c.fact 126 (f := Wk.kiB "MissError" "NoNumber" false))
theorem Tx.ki_NoName_NoNumber (T : Tx K mg) : PySem.W.kitOne K (.ref (He.ga K "NoName")) (.ref (He.ga K "NoNumber")) = some false := of_decide_eq_true (T.c.fact 127 (f := Wk.kiB "NoName" "NoNumber" false))
theorem Tx.ki_NoNumber_NoNumber (T : Tx K mg) : PySem.W.kitOne K (.ref (He.ga K "NoNumber")) (.ref (He.ga K "NoNumber")) = some true := of_decide_eq_true (T.c.fact 128 (f := Wk.kiB "NoNumber" "NoNumber" true))
theorem Tx.ki_NoSort_NoNumber (T : Tx K mg) : PySem.W.kitOne K (.ref (He.ga K "NoSort")) (.ref (He.ga K "NoNumber")) = some false := of_decide_eq_true (T.c.fact 129 (f := Wk.kiB "NoSort" "NoNumber" false))
theorem Tx.ki_NoYear_NoNumber (T : Tx K mg) : PySem.W.kitOne K (.ref (He.ga K "NoYear")) (.ref (He.ga K "NoNumber")) = some false := of_decide_eq_true (T.c.fact 130 (f := Wk.kiB "NoYear" "NoNumber" false))
theorem Tx.ki_NoWeek_NoNumber (T : Tx K mg) : PySem.W.kitOne K (.ref (He.ga K "NoWeek")) (.ref (He.ga K "NoNumber")) = some false := of_decide_eq_true (T.c.fact 131 (f := Wk.kiB "NoWeek" "NoNumber" false))
theorem Tx.ki_NoRow_NoNumber (T : Tx K mg) : PySem.W.kitOne K (.ref (He.ga K "NoRow")) (.ref (He.ga K "NoNumber")) = some false := of_decide_eq_true (T.c.fact 132 (f := Wk.kiB "NoRow" "NoNumber" false))
theorem Tx.ki_NoStay_NoNumber (T : Tx K mg) : PySem.W.kitOne K (.ref (He.ga K "NoStay")) (.ref (He.ga K "NoNumber")) = some false := of_decide_eq_true (T.c.fact 133 (f := Wk.kiB "NoStay" "NoNumber" false))
theorem Tx.ki_NoRests_NoNumber (T : Tx K mg) : PySem.W.kitOne K (.ref (He.ga K "NoRests")) (.ref (He.ga K "NoNumber")) = some false := of_decide_eq_true (T.c.fact 134 (f := Wk.kiB "NoRests" "NoNumber" false))
theorem Tx.ki_NoList_NoNumber (T : Tx K mg) : PySem.W.kitOne K (.ref (He.ga K "NoList")) (.ref (He.ga K "NoNumber")) = some false := of_decide_eq_true (T.c.fact 135 (f := Wk.kiB "NoList" "NoNumber" false))
theorem Tx.ki_Doubled_NoNumber (T : Tx K mg) : PySem.W.kitOne K (.ref (He.ga K "Doubled")) (.ref (He.ga K "NoNumber")) = some false := of_decide_eq_true (T.c.fact 136 (f := Wk.kiB "Doubled" "NoNumber" false))
theorem Tx.ki_TooMany_NoNumber (T : Tx K mg) : PySem.W.kitOne K (.ref (He.ga K "TooMany")) (.ref (He.ga K "NoNumber")) = some false := of_decide_eq_true (T.c.fact 137 (f := Wk.kiB "TooMany" "NoNumber" false))
theorem Tx.ki_NotThere_NoNumber (T : Tx K mg) : PySem.W.kitOne K (.ref (He.ga K "NotThere")) (.ref (He.ga K "NoNumber")) = some false := of_decide_eq_true (T.c.fact 138 (f := Wk.kiB "NotThere" "NoNumber" false))
theorem Tx.kb_NoSort (T : Tx K mg) {n : String} (h : n ∈ seven) : PySem.W.kitOne K (.type n) (.ref (He.ga K "NoSort")) = some false := of_decide_eq_true (List.all_eq_true.mp (T.c.fact 139 (f := Wk.kbB "NoSort")) n h)
theorem Tx.ki_WeekError_NoSort (T : Tx K mg) : PySem.W.kitOne K (.ref (He.ga K "WeekError")) (.ref (He.ga K "NoSort")) = some false := of_decide_eq_true (T.c.fact 140 (f := Wk.kiB "WeekError" "NoSort" false))
theorem Tx.ki_MissError_NoSort (T : Tx K mg) : PySem.W.kitOne K (.ref (He.ga K "MissError")) (.ref (He.ga K "NoSort")) = some false := of_decide_eq_true (T.c.fact 141 (f := Wk.kiB "MissError" "NoSort" false))
theorem Tx.ki_NoName_NoSort (T : Tx K mg) : PySem.W.kitOne K (.ref (He.ga K "NoName")) (.ref (He.ga K "NoSort")) = some false := of_decide_eq_true (T.c.fact 142 (f := Wk.kiB "NoName" "NoSort" false))
theorem Tx.ki_NoNumber_NoSort (T : Tx K mg) : PySem.W.kitOne K (.ref (He.ga K "NoNumber")) (.ref (He.ga K "NoSort")) = some false := of_decide_eq_true (T.c.fact 143 (f := Wk.kiB "NoNumber" "NoSort" false))
theorem Tx.ki_NoSort_NoSort (T : Tx K mg) : PySem.W.kitOne K (.ref (He.ga K "NoSort")) (.ref (He.ga K "NoSort")) = some true := of_decide_eq_true (T.c.fact 144 (f := Wk.kiB "NoSort" "NoSort" true))
theorem Tx.ki_NoYear_NoSort (T : Tx K mg) : PySem.W.kitOne K (.ref (He.ga K "NoYear")) (.ref (He.ga K "NoSort")) = some false := of_decide_eq_true (T.c.fact 145 (f := Wk.kiB "NoYear" "NoSort" false))
theorem Tx.ki_NoWeek_NoSort (T : Tx K mg) : PySem.W.kitOne K (.ref (He.ga K "NoWeek")) (.ref (He.ga K "NoSort")) = some false := of_decide_eq_true (T.c.fact 146 (f := Wk.kiB "NoWeek" "NoSort" false))
theorem Tx.ki_NoRow_NoSort (T : Tx K mg) : PySem.W.kitOne K (.ref (He.ga K "NoRow")) (.ref (He.ga K "NoSort")) = some false := of_decide_eq_true (T.c.fact 147 (f := Wk.kiB "NoRow" "NoSort" false))
theorem Tx.ki_NoStay_NoSort (T : Tx K mg) : PySem.W.kitOne K (.ref (He.ga K "NoStay")) (.ref (He.ga K "NoSort")) = some false := of_decide_eq_true (T.c.fact 148 (f := Wk.kiB "NoStay" "NoSort" false))
theorem Tx.ki_NoRests_NoSort (T : Tx K mg) : PySem.W.kitOne K (.ref (He.ga K "NoRests")) (.ref (He.ga K "NoSort")) = some false := of_decide_eq_true (T.c.fact 149 (f := Wk.kiB "NoRests" "NoSort" false))
theorem Tx.ki_NoList_NoSort (T : Tx K mg) : PySem.W.kitOne K (.ref (He.ga K "NoList")) (.ref (He.ga K "NoSort")) = some false := of_decide_eq_true (T.c.fact 150 (f := Wk.kiB "NoList" "NoSort" false))
theorem Tx.ki_Doubled_NoSort (T : Tx K mg) : PySem.W.kitOne K (.ref (He.ga K "Doubled")) (.ref (He.ga K "NoSort")) = some false := of_decide_eq_true (T.c.fact 151 (f := Wk.kiB "Doubled" "NoSort" false))
theorem Tx.ki_TooMany_NoSort (T : Tx K mg) : PySem.W.kitOne K (.ref (He.ga K "TooMany")) (.ref (He.ga K "NoSort")) = some false := of_decide_eq_true (T.c.fact 152 (f := Wk.kiB "TooMany" "NoSort" false))
theorem Tx.ki_NotThere_NoSort (T : Tx K mg) : PySem.W.kitOne K (.ref (He.ga K "NotThere")) (.ref (He.ga K "NoSort")) = some false := of_decide_eq_true (T.c.fact 153 (f := Wk.kiB "NotThere" "NoSort" false))
theorem Tx.kb_NoYear (T : Tx K mg) {n : String} (h : n ∈ seven) : PySem.W.kitOne K (.type n) (.ref (He.ga K "NoYear")) = some false := of_decide_eq_true (List.all_eq_true.mp (T.c.fact 154 (f := Wk.kbB "NoYear")) n h)
theorem Tx.ki_WeekError_NoYear (T : Tx K mg) : PySem.W.kitOne K (.ref (He.ga K "WeekError")) (.ref (He.ga K "NoYear")) = some false := of_decide_eq_true (T.c.fact 155 (f := Wk.kiB "WeekError" "NoYear" false))
theorem Tx.ki_MissError_NoYear (T : Tx K mg) : PySem.W.kitOne K (.ref (He.ga K "MissError")) (.ref (He.ga K "NoYear")) = some false := of_decide_eq_true (T.c.fact 156 (f := Wk.kiB "MissError" "NoYear" false))
theorem Tx.ki_NoName_NoYear (T : Tx K mg) : PySem.W.kitOne K (.ref (He.ga K "NoName")) (.ref (He.ga K "NoYear")) = some false := of_decide_eq_true (T.c.fact 157 (f := Wk.kiB "NoName" "NoYear" false))
theorem Tx.ki_NoNumber_NoYear (T : Tx K mg) : PySem.W.kitOne K (.ref (He.ga K "NoNumber")) (.ref (He.ga K "NoYear")) = some false := of_decide_eq_true (T.c.fact 158 (f := Wk.kiB "NoNumber" "NoYear" false))
theorem Tx.ki_NoSort_NoYear (T : Tx K mg) : PySem.W.kitOne K (.ref (He.ga K "NoSort")) (.ref (He.ga K "NoYear")) = some false := of_decide_eq_true (T.c.fact 159 (f := Wk.kiB "NoSort" "NoYear" false))
theorem Tx.ki_NoYear_NoYear (T : Tx K mg) : PySem.W.kitOne K (.ref (He.ga K "NoYear")) (.ref (He.ga K "NoYear")) = some true := of_decide_eq_true (T.c.fact 160 (f := Wk.kiB "NoYear" "NoYear" true))
theorem Tx.ki_NoWeek_NoYear (T : Tx K mg) : PySem.W.kitOne K (.ref (He.ga K "NoWeek")) (.ref (He.ga K "NoYear")) = some false := of_decide_eq_true (T.c.fact 161 (f := Wk.kiB "NoWeek" "NoYear" false))
theorem Tx.ki_NoRow_NoYear (T : Tx K mg) : PySem.W.kitOne K (.ref (He.ga K "NoRow")) (.ref (He.ga K "NoYear")) = some false := of_decide_eq_true (T.c.fact 162 (f := Wk.kiB "NoRow" "NoYear" false))
theorem Tx.ki_NoStay_NoYear (T : Tx K mg) : PySem.W.kitOne K (.ref (He.ga K "NoStay")) (.ref (He.ga K "NoYear")) = some false := of_decide_eq_true (T.c.fact 163 (f := Wk.kiB "NoStay" "NoYear" false))
theorem Tx.ki_NoRests_NoYear (T : Tx K mg) : PySem.W.kitOne K (.ref (He.ga K "NoRests")) (.ref (He.ga K "NoYear")) = some false := of_decide_eq_true (T.c.fact 164 (f := Wk.kiB "NoRests" "NoYear" false))
theorem Tx.ki_NoList_NoYear (T : Tx K mg) : PySem.W.kitOne K (.ref (He.ga K "NoList")) (.ref (He.ga K "NoYear")) = some false := of_decide_eq_true (T.c.fact 165 (f := Wk.kiB "NoList" "NoYear" false))
theorem Tx.ki_Doubled_NoYear (T : Tx K mg) : PySem.W.kitOne K (.ref (He.ga K "Doubled")) (.ref (He.ga K "NoYear")) = some false := of_decide_eq_true (T.c.fact 166 (f := Wk.kiB "Doubled" "NoYear" false))
theorem Tx.ki_TooMany_NoYear (T : Tx K mg) : PySem.W.kitOne K (.ref (He.ga K "TooMany")) (.ref (He.ga K "NoYear")) = some false := of_decide_eq_true (T.c.fact 167 (f := Wk.kiB "TooMany" "NoYear" false))
theorem Tx.ki_NotThere_NoYear (T : Tx K mg) : PySem.W.kitOne K (.ref (He.ga K "NotThere")) (.ref (He.ga K "NoYear")) = some false := of_decide_eq_true (T.c.fact 168 (f := Wk.kiB "NotThere" "NoYear" false))
theorem Tx.kb_WeekError (T : Tx K mg) {n : String} (h : n ∈ seven) : PySem.W.kitOne K (.type n) (.ref (He.ga K "WeekError")) = some false := of_decide_eq_true (List.all_eq_true.mp (T.c.fact 169 (f := Wk.kbB "WeekError")) n h)
theorem Tx.ki_WeekError_WeekError (T : Tx K mg) : PySem.W.kitOne K (.ref (He.ga K "WeekError")) (.ref (He.ga K "WeekError")) = some true := of_decide_eq_true (T.c.fact 170 (f := Wk.kiB "WeekError" "WeekError" true))
theorem Tx.ki_MissError_WeekError (T : Tx K mg) : PySem.W.kitOne K (.ref (He.ga K "MissError")) (.ref (He.ga K "WeekError")) = some false := of_decide_eq_true (T.c.fact 171 (f := Wk.kiB "MissError" "WeekError" false))
theorem Tx.ki_NoName_WeekError (T : Tx K mg) : PySem.W.kitOne K (.ref (He.ga K "NoName")) (.ref (He.ga K "WeekError")) = some true := of_decide_eq_true (T.c.fact 172 (f := Wk.kiB "NoName" "WeekError" true))
theorem Tx.ki_NoNumber_WeekError (T : Tx K mg) : PySem.W.kitOne K (.ref (He.ga K "NoNumber")) (.ref (He.ga K "WeekError")) = some true := of_decide_eq_true (T.c.fact 173 (f := Wk.kiB "NoNumber" "WeekError" true))
theorem Tx.ki_NoSort_WeekError (T : Tx K mg) : PySem.W.kitOne K (.ref (He.ga K "NoSort")) (.ref (He.ga K "WeekError")) = some true := of_decide_eq_true (T.c.fact 174 (f := Wk.kiB "NoSort" "WeekError" true))
theorem Tx.ki_NoYear_WeekError (T : Tx K mg) : PySem.W.kitOne K (.ref (He.ga K "NoYear")) (.ref (He.ga K "WeekError")) = some true := of_decide_eq_true (T.c.fact 175 (f := Wk.kiB "NoYear" "WeekError" true))
theorem Tx.ki_NoWeek_WeekError (T : Tx K mg) : PySem.W.kitOne K (.ref (He.ga K "NoWeek")) (.ref (He.ga K "WeekError")) = some true := of_decide_eq_true (T.c.fact 176 (f := Wk.kiB "NoWeek" "WeekError" true))
theorem Tx.ki_NoRow_WeekError (T : Tx K mg) : PySem.W.kitOne K (.ref (He.ga K "NoRow")) (.ref (He.ga K "WeekError")) = some true := of_decide_eq_true (T.c.fact 177 (f := Wk.kiB "NoRow" "WeekError" true))
theorem Tx.ki_NoStay_WeekError (T : Tx K mg) : PySem.W.kitOne K (.ref (He.ga K "NoStay")) (.ref (He.ga K "WeekError")) = some true := of_decide_eq_true (T.c.fact 178 (f := Wk.kiB "NoStay" "WeekError" true))
theorem Tx.ki_NoRests_WeekError (T : Tx K mg) : PySem.W.kitOne K (.ref (He.ga K "NoRests")) (.ref (He.ga K "WeekError")) = some true := of_decide_eq_true (T.c.fact 179 (f := Wk.kiB "NoRests" "WeekError" true))
theorem Tx.ki_NoList_WeekError (T : Tx K mg) : PySem.W.kitOne K (.ref (He.ga K "NoList")) (.ref (He.ga K "WeekError")) = some true := of_decide_eq_true (T.c.fact 180 (f := Wk.kiB "NoList" "WeekError" true))
theorem Tx.ki_Doubled_WeekError (T : Tx K mg) : PySem.W.kitOne K (.ref (He.ga K "Doubled")) (.ref (He.ga K "WeekError")) = some true := of_decide_eq_true (T.c.fact 181 (f := Wk.kiB "Doubled" "WeekError" true))
theorem Tx.ki_TooMany_WeekError (T : Tx K mg) : PySem.W.kitOne K (.ref (He.ga K "TooMany")) (.ref (He.ga K "WeekError")) = some true := of_decide_eq_true (T.c.fact 182 (f := Wk.kiB "TooMany" "WeekError" true))
theorem Tx.ki_NotThere_WeekError (T : Tx K mg) : PySem.W.kitOne K (.ref (He.ga K "NotThere")) (.ref (He.ga K "WeekError")) = some false := of_decide_eq_true (T.c.fact 183 (f := Wk.kiB "NotThere" "WeekError" false))
theorem Tx.kb_MissError (T : Tx K mg) {n : String} (h : n ∈ seven) : PySem.W.kitOne K (.type n) (.ref (He.ga K "MissError")) = some false := of_decide_eq_true (List.all_eq_true.mp (T.c.fact 184 (f := Wk.kbB "MissError")) n h)
theorem Tx.ki_WeekError_MissError (T : Tx K mg) : PySem.W.kitOne K (.ref (He.ga K "WeekError")) (.ref (He.ga K "MissError")) = some false := of_decide_eq_true (T.c.fact 185 (f := Wk.kiB "WeekError" "MissError" false))
theorem Tx.ki_MissError_MissError (T : Tx K mg) : PySem.W.kitOne K (.ref (He.ga K "MissError")) (.ref (He.ga K "MissError")) = some true := of_decide_eq_true (T.c.fact 186 (f := Wk.kiB "MissError" "MissError" true))
theorem Tx.ki_NoName_MissError (T : Tx K mg) : PySem.W.kitOne K (.ref (He.ga K "NoName")) (.ref (He.ga K "MissError")) = some false := of_decide_eq_true (T.c.fact 187 (f := Wk.kiB "NoName" "MissError" false))
theorem Tx.ki_NoNumber_MissError (T : Tx K mg) : PySem.W.kitOne K (.ref (He.ga K "NoNumber")) (.ref (He.ga K "MissError")) = some false := of_decide_eq_true (T.c.fact 188 (f := Wk.kiB "NoNumber" "MissError" false))
theorem Tx.ki_NoSort_MissError (T : Tx K mg) : PySem.W.kitOne K (.ref (He.ga K "NoSort")) (.ref (He.ga K "MissError")) = some false := of_decide_eq_true (T.c.fact 189 (f := Wk.kiB "NoSort" "MissError" false))
theorem Tx.ki_NoYear_MissError (T : Tx K mg) : PySem.W.kitOne K (.ref (He.ga K "NoYear")) (.ref (He.ga K "MissError")) = some false := of_decide_eq_true (T.c.fact 190 (f := Wk.kiB "NoYear" "MissError" false))
theorem Tx.ki_NoWeek_MissError (T : Tx K mg) : PySem.W.kitOne K (.ref (He.ga K "NoWeek")) (.ref (He.ga K "MissError")) = some false := of_decide_eq_true (T.c.fact 191 (f := Wk.kiB "NoWeek" "MissError" false))
theorem Tx.ki_NoRow_MissError (T : Tx K mg) : PySem.W.kitOne K (.ref (He.ga K "NoRow")) (.ref (He.ga K "MissError")) = some false := of_decide_eq_true (T.c.fact 192 (f := Wk.kiB "NoRow" "MissError" false))
theorem Tx.ki_NoStay_MissError (T : Tx K mg) : PySem.W.kitOne K (.ref (He.ga K "NoStay")) (.ref (He.ga K "MissError")) = some false := of_decide_eq_true (T.c.fact 193 (f := Wk.kiB "NoStay" "MissError" false))
theorem Tx.ki_NoRests_MissError (T : Tx K mg) : PySem.W.kitOne K (.ref (He.ga K "NoRests")) (.ref (He.ga K "MissError")) = some false := of_decide_eq_true (T.c.fact 194 (f := Wk.kiB "NoRests" "MissError" false))
theorem Tx.ki_NoList_MissError (T : Tx K mg) : PySem.W.kitOne K (.ref (He.ga K "NoList")) (.ref (He.ga K "MissError")) = some false := of_decide_eq_true (T.c.fact 195 (f := Wk.kiB "NoList" "MissError" false))
theorem Tx.ki_Doubled_MissError (T : Tx K mg) : PySem.W.kitOne K (.ref (He.ga K "Doubled")) (.ref (He.ga K "MissError")) = some false := of_decide_eq_true (T.c.fact 196 (f := Wk.kiB "Doubled" "MissError" false))
theorem Tx.ki_TooMany_MissError (T : Tx K mg) : PySem.W.kitOne K (.ref (He.ga K "TooMany")) (.ref (He.ga K "MissError")) = some false := of_decide_eq_true (T.c.fact 197 (f := Wk.kiB "TooMany" "MissError" false))
theorem Tx.ki_NotThere_MissError (T : Tx K mg) : PySem.W.kitOne K (.ref (He.ga K "NotThere")) (.ref (He.ga K "MissError")) = some true := of_decide_eq_true (T.c.fact 198 (f := Wk.kiB "NotThere" "MissError" true))
theorem Tx.kb_NoWeek (T : Tx K mg) {n : String} (h : n ∈ seven) : PySem.W.kitOne K (.type n) (.ref (He.ga K "NoWeek")) = some false := of_decide_eq_true (List.all_eq_true.mp (T.c.fact 199 (f := Wk.kbB "NoWeek")) n h)
theorem Tx.ki_WeekError_NoWeek (T : Tx K mg) : PySem.W.kitOne K (.ref (He.ga K "WeekError")) (.ref (He.ga K "NoWeek")) = some false := of_decide_eq_true (T.c.fact 200 (f := Wk.kiB "WeekError" "NoWeek" false))
theorem Tx.ki_MissError_NoWeek (T : Tx K mg) : PySem.W.kitOne K (.ref (He.ga K "MissError")) (.ref (He.ga K "NoWeek")) = some false := of_decide_eq_true (T.c.fact 201 (f := Wk.kiB "MissError" "NoWeek" false))
theorem Tx.ki_NoName_NoWeek (T : Tx K mg) : PySem.W.kitOne K (.ref (He.ga K "NoName")) (.ref (He.ga K "NoWeek")) = some false := of_decide_eq_true (T.c.fact 202 (f := Wk.kiB "NoName" "NoWeek" false))
theorem Tx.ki_NoNumber_NoWeek (T : Tx K mg) : PySem.W.kitOne K (.ref (He.ga K "NoNumber")) (.ref (He.ga K "NoWeek")) = some false := of_decide_eq_true (T.c.fact 203 (f := Wk.kiB "NoNumber" "NoWeek" false))
theorem Tx.ki_NoSort_NoWeek (T : Tx K mg) : PySem.W.kitOne K (.ref (He.ga K "NoSort")) (.ref (He.ga K "NoWeek")) = some false := of_decide_eq_true (T.c.fact 204 (f := Wk.kiB "NoSort" "NoWeek" false))
theorem Tx.ki_NoYear_NoWeek (T : Tx K mg) : PySem.W.kitOne K (.ref (He.ga K "NoYear")) (.ref (He.ga K "NoWeek")) = some false := of_decide_eq_true (T.c.fact 205 (f := Wk.kiB "NoYear" "NoWeek" false))
theorem Tx.ki_NoWeek_NoWeek (T : Tx K mg) : PySem.W.kitOne K (.ref (He.ga K "NoWeek")) (.ref (He.ga K "NoWeek")) = some true := of_decide_eq_true (T.c.fact 206 (f := Wk.kiB "NoWeek" "NoWeek" true))
theorem Tx.ki_NoRow_NoWeek (T : Tx K mg) : PySem.W.kitOne K (.ref (He.ga K "NoRow")) (.ref (He.ga K "NoWeek")) = some false := of_decide_eq_true (T.c.fact 207 (f := Wk.kiB "NoRow" "NoWeek" false))
theorem Tx.ki_NoStay_NoWeek (T : Tx K mg) : PySem.W.kitOne K (.ref (He.ga K "NoStay")) (.ref (He.ga K "NoWeek")) = some false := of_decide_eq_true (T.c.fact 208 (f := Wk.kiB "NoStay" "NoWeek" false))
theorem Tx.ki_NoRests_NoWeek (T : Tx K mg) : PySem.W.kitOne K (.ref (He.ga K "NoRests")) (.ref (He.ga K "NoWeek")) = some false := of_decide_eq_true (T.c.fact 209 (f := Wk.kiB "NoRests" "NoWeek" false))
theorem Tx.ki_NoList_NoWeek (T : Tx K mg) : PySem.W.kitOne K (.ref (He.ga K "NoList")) (.ref (He.ga K "NoWeek")) = some false := of_decide_eq_true (T.c.fact 210 (f := Wk.kiB "NoList" "NoWeek" false))
theorem Tx.ki_Doubled_NoWeek (T : Tx K mg) : PySem.W.kitOne K (.ref (He.ga K "Doubled")) (.ref (He.ga K "NoWeek")) = some false := of_decide_eq_true (T.c.fact 211 (f := Wk.kiB "Doubled" "NoWeek" false))
theorem Tx.ki_TooMany_NoWeek (T : Tx K mg) : PySem.W.kitOne K (.ref (He.ga K "TooMany")) (.ref (He.ga K "NoWeek")) = some false := of_decide_eq_true (T.c.fact 212 (f := Wk.kiB "TooMany" "NoWeek" false))
theorem Tx.ki_NotThere_NoWeek (T : Tx K mg) : PySem.W.kitOne K (.ref (He.ga K "NotThere")) (.ref (He.ga K "NoWeek")) = some false := of_decide_eq_true (T.c.fact 213 (f := Wk.kiB "NotThere" "NoWeek" false))
theorem Tx.kb_NoRow (T : Tx K mg) {n : String} (h : n ∈ seven) : PySem.W.kitOne K (.type n) (.ref (He.ga K "NoRow")) = some false := of_decide_eq_true (List.all_eq_true.mp (T.c.fact 214 (f := Wk.kbB "NoRow")) n h)
theorem Tx.ki_WeekError_NoRow (T : Tx K mg) : PySem.W.kitOne K (.ref (He.ga K "WeekError")) (.ref (He.ga K "NoRow")) = some false := of_decide_eq_true (T.c.fact 215 (f := Wk.kiB "WeekError" "NoRow" false))
theorem Tx.ki_MissError_NoRow (T : Tx K mg) : PySem.W.kitOne K (.ref (He.ga K "MissError")) (.ref (He.ga K "NoRow")) = some false := of_decide_eq_true (T.c.fact 216 (f := Wk.kiB "MissError" "NoRow" false))
theorem Tx.ki_NoName_NoRow (T : Tx K mg) : PySem.W.kitOne K (.ref (He.ga K "NoName")) (.ref (He.ga K "NoRow")) = some false := of_decide_eq_true (T.c.fact 217 (f := Wk.kiB "NoName" "NoRow" false))
theorem Tx.ki_NoNumber_NoRow (T : Tx K mg) : PySem.W.kitOne K (.ref (He.ga K "NoNumber")) (.ref (He.ga K "NoRow")) = some false := of_decide_eq_true (T.c.fact 218 (f := Wk.kiB "NoNumber" "NoRow" false))
theorem Tx.ki_NoSort_NoRow (T : Tx K mg) : PySem.W.kitOne K (.ref (He.ga K "NoSort")) (.ref (He.ga K "NoRow")) = some false := of_decide_eq_true (T.c.fact 219 (f := Wk.kiB "NoSort" "NoRow" false))
theorem Tx.ki_NoYear_NoRow (T : Tx K mg) : PySem.W.kitOne K (.ref (He.ga K "NoYear")) (.ref (He.ga K "NoRow")) = some false := of_decide_eq_true (T.c.fact 220 (f := Wk.kiB "NoYear" "NoRow" false))
theorem Tx.ki_NoWeek_NoRow (T : Tx K mg) : PySem.W.kitOne K (.ref (He.ga K "NoWeek")) (.ref (He.ga K "NoRow")) = some false := of_decide_eq_true (T.c.fact 221 (f := Wk.kiB "NoWeek" "NoRow" false))
theorem Tx.ki_NoRow_NoRow (T : Tx K mg) : PySem.W.kitOne K (.ref (He.ga K "NoRow")) (.ref (He.ga K "NoRow")) = some true := of_decide_eq_true (T.c.fact 222 (f := Wk.kiB "NoRow" "NoRow" true))
theorem Tx.ki_NoStay_NoRow (T : Tx K mg) : PySem.W.kitOne K (.ref (He.ga K "NoStay")) (.ref (He.ga K "NoRow")) = some false := of_decide_eq_true (T.c.fact 223 (f := Wk.kiB "NoStay" "NoRow" false))
theorem Tx.ki_NoRests_NoRow (T : Tx K mg) : PySem.W.kitOne K (.ref (He.ga K "NoRests")) (.ref (He.ga K "NoRow")) = some false := of_decide_eq_true (T.c.fact 224 (f := Wk.kiB "NoRests" "NoRow" false))
theorem Tx.ki_NoList_NoRow (T : Tx K mg) : PySem.W.kitOne K (.ref (He.ga K "NoList")) (.ref (He.ga K "NoRow")) = some false := of_decide_eq_true (T.c.fact 225 (f := Wk.kiB "NoList" "NoRow" false))
theorem Tx.ki_Doubled_NoRow (T : Tx K mg) : PySem.W.kitOne K (.ref (He.ga K "Doubled")) (.ref (He.ga K "NoRow")) = some false := of_decide_eq_true (T.c.fact 226 (f := Wk.kiB "Doubled" "NoRow" false))
theorem Tx.ki_TooMany_NoRow (T : Tx K mg) : PySem.W.kitOne K (.ref (He.ga K "TooMany")) (.ref (He.ga K "NoRow")) = some false := of_decide_eq_true (T.c.fact 227 (f := Wk.kiB "TooMany" "NoRow" false))
theorem Tx.ki_NotThere_NoRow (T : Tx K mg) : PySem.W.kitOne K (.ref (He.ga K "NotThere")) (.ref (He.ga K "NoRow")) = some false := of_decide_eq_true (T.c.fact 228 (f := Wk.kiB "NotThere" "NoRow" false))
theorem Tx.kb_NoStay (T : Tx K mg) {n : String} (h : n ∈ seven) : PySem.W.kitOne K (.type n) (.ref (He.ga K "NoStay")) = some false := of_decide_eq_true (List.all_eq_true.mp (T.c.fact 229 (f := Wk.kbB "NoStay")) n h)
theorem Tx.ki_WeekError_NoStay (T : Tx K mg) : PySem.W.kitOne K (.ref (He.ga K "WeekError")) (.ref (He.ga K "NoStay")) = some false := of_decide_eq_true (T.c.fact 230 (f := Wk.kiB "WeekError" "NoStay" false))
theorem Tx.ki_MissError_NoStay (T : Tx K mg) : PySem.W.kitOne K (.ref (He.ga K "MissError")) (.ref (He.ga K "NoStay")) = some false := of_decide_eq_true (T.c.fact 231 (f := Wk.kiB "MissError" "NoStay" false))
theorem Tx.ki_NoName_NoStay (T : Tx K mg) : PySem.W.kitOne K (.ref (He.ga K "NoName")) (.ref (He.ga K "NoStay")) = some false := of_decide_eq_true (T.c.fact 232 (f := Wk.kiB "NoName" "NoStay" false))
theorem Tx.ki_NoNumber_NoStay (T : Tx K mg) : PySem.W.kitOne K (.ref (He.ga K "NoNumber")) (.ref (He.ga K "NoStay")) = some false := of_decide_eq_true (T.c.fact 233 (f := Wk.kiB "NoNumber" "NoStay" false))
theorem Tx.ki_NoSort_NoStay (T : Tx K mg) : PySem.W.kitOne K (.ref (He.ga K "NoSort")) (.ref (He.ga K "NoStay")) = some false := of_decide_eq_true (T.c.fact 234 (f := Wk.kiB "NoSort" "NoStay" false))
theorem Tx.ki_NoYear_NoStay (T : Tx K mg) : PySem.W.kitOne K (.ref (He.ga K "NoYear")) (.ref (He.ga K "NoStay")) = some false := of_decide_eq_true (T.c.fact 235 (f := Wk.kiB "NoYear" "NoStay" false))
theorem Tx.ki_NoWeek_NoStay (T : Tx K mg) : PySem.W.kitOne K (.ref (He.ga K "NoWeek")) (.ref (He.ga K "NoStay")) = some false := of_decide_eq_true (T.c.fact 236 (f := Wk.kiB "NoWeek" "NoStay" false))
theorem Tx.ki_NoRow_NoStay (T : Tx K mg) : PySem.W.kitOne K (.ref (He.ga K "NoRow")) (.ref (He.ga K "NoStay")) = some false := of_decide_eq_true (T.c.fact 237 (f := Wk.kiB "NoRow" "NoStay" false))
theorem Tx.ki_NoStay_NoStay (T : Tx K mg) : PySem.W.kitOne K (.ref (He.ga K "NoStay")) (.ref (He.ga K "NoStay")) = some true := of_decide_eq_true (T.c.fact 238 (f := Wk.kiB "NoStay" "NoStay" true))
theorem Tx.ki_NoRests_NoStay (T : Tx K mg) : PySem.W.kitOne K (.ref (He.ga K "NoRests")) (.ref (He.ga K "NoStay")) = some false := of_decide_eq_true (T.c.fact 239 (f := Wk.kiB "NoRests" "NoStay" false))
theorem Tx.ki_NoList_NoStay (T : Tx K mg) : PySem.W.kitOne K (.ref (He.ga K "NoList")) (.ref (He.ga K "NoStay")) = some false := of_decide_eq_true (T.c.fact 240 (f := Wk.kiB "NoList" "NoStay" false))
theorem Tx.ki_Doubled_NoStay (T : Tx K mg) : PySem.W.kitOne K (.ref (He.ga K "Doubled")) (.ref (He.ga K "NoStay")) = some false := of_decide_eq_true (T.c.fact 241 (f := Wk.kiB "Doubled" "NoStay" false))
theorem Tx.ki_TooMany_NoStay (T : Tx K mg) : PySem.W.kitOne K (.ref (He.ga K "TooMany")) (.ref (He.ga K "NoStay")) = some false := of_decide_eq_true (T.c.fact 242 (f := Wk.kiB "TooMany" "NoStay" false))
theorem Tx.ki_NotThere_NoStay (T : Tx K mg) : PySem.W.kitOne K (.ref (He.ga K "NotThere")) (.ref (He.ga K "NoStay")) = some false := of_decide_eq_true (T.c.fact 243 (f := Wk.kiB "NotThere" "NoStay" false))
theorem Tx.kb_NoRests (T : Tx K mg) {n : String} (h : n ∈ seven) : PySem.W.kitOne K (.type n) (.ref (He.ga K "NoRests")) = some false := of_decide_eq_true (List.all_eq_true.mp (T.c.fact 244 (f := Wk.kbB "NoRests")) n h)
theorem Tx.ki_WeekError_NoRests (T : Tx K mg) : PySem.W.kitOne K (.ref (He.ga K "WeekError")) (.ref (He.ga K "NoRests")) = some false := of_decide_eq_true (T.c.fact 245 (f := Wk.kiB "WeekError" "NoRests" false))
theorem Tx.ki_MissError_NoRests (T : Tx K mg) : PySem.W.kitOne K (.ref (He.ga K "MissError")) (.ref (He.ga K "NoRests")) = some false := of_decide_eq_true (T.c.fact 246 (f := Wk.kiB "MissError" "NoRests" false))
theorem Tx.ki_NoName_NoRests (T : Tx K mg) : PySem.W.kitOne K (.ref (He.ga K "NoName")) (.ref (He.ga K "NoRests")) = some false := of_decide_eq_true (T.c.fact 247 (f := Wk.kiB "NoName" "NoRests" false))
theorem Tx.ki_NoNumber_NoRests (T : Tx K mg) : PySem.W.kitOne K (.ref (He.ga K "NoNumber")) (.ref (He.ga K "NoRests")) = some false := of_decide_eq_true (T.c.fact 248 (f := Wk.kiB "NoNumber" "NoRests" false))
theorem Tx.ki_NoSort_NoRests (T : Tx K mg) : PySem.W.kitOne K (.ref (He.ga K "NoSort")) (.ref (He.ga K "NoRests")) = some false := of_decide_eq_true (T.c.fact 249 (f := Wk.kiB "NoSort" "NoRests" false))
theorem Tx.ki_NoYear_NoRests (T : Tx K mg) : PySem.W.kitOne K (.ref (He.ga K "NoYear")) (.ref (He.ga K "NoRests")) = some false := of_decide_eq_true (T.c.fact 250 (f := Wk.kiB "NoYear" "NoRests" false))
theorem Tx.ki_NoWeek_NoRests (T : Tx K mg) : PySem.W.kitOne K (.ref (He.ga K "NoWeek")) (.ref (He.ga K "NoRests")) = some false := of_decide_eq_true (T.c.fact 251 (f := Wk.kiB "NoWeek" "NoRests" false))
theorem Tx.ki_NoRow_NoRests (T : Tx K mg) : PySem.W.kitOne K (.ref (He.ga K "NoRow")) (.ref (He.ga K "NoRests")) = some false := of_decide_eq_true (T.c.fact 252 (f := Wk.kiB "NoRow" "NoRests" false))
theorem Tx.ki_NoStay_NoRests (T : Tx K mg) : PySem.W.kitOne K (.ref (He.ga K "NoStay")) (.ref (He.ga K "NoRests")) = some false := of_decide_eq_true (T.c.fact 253 (f := Wk.kiB "NoStay" "NoRests" false))
theorem Tx.ki_NoRests_NoRests (T : Tx K mg) : PySem.W.kitOne K (.ref (He.ga K "NoRests")) (.ref (He.ga K "NoRests")) = some true := of_decide_eq_true (T.c.fact 254 (f := Wk.kiB "NoRests" "NoRests" true))
theorem Tx.ki_NoList_NoRests (T : Tx K mg) : PySem.W.kitOne K (.ref (He.ga K "NoList")) (.ref (He.ga K "NoRests")) = some false := of_decide_eq_true (T.c.fact 255 (f := Wk.kiB "NoList" "NoRests" false))
theorem Tx.ki_Doubled_NoRests (T : Tx K mg) : PySem.W.kitOne K (.ref (He.ga K "Doubled")) (.ref (He.ga K "NoRests")) = some false := of_decide_eq_true (T.c.fact 256 (f := Wk.kiB "Doubled" "NoRests" false))
theorem Tx.ki_TooMany_NoRests (T : Tx K mg) : PySem.W.kitOne K (.ref (He.ga K "TooMany")) (.ref (He.ga K "NoRests")) = some false := of_decide_eq_true (T.c.fact 257 (f := Wk.kiB "TooMany" "NoRests" false))
theorem Tx.ki_NotThere_NoRests (T : Tx K mg) : PySem.W.kitOne K (.ref (He.ga K "NotThere")) (.ref (He.ga K "NoRests")) = some false := of_decide_eq_true (T.c.fact 258 (f := Wk.kiB "NotThere" "NoRests" false))
theorem Tx.kb_NoList (T : Tx K mg) {n : String} (h : n ∈ seven) : PySem.W.kitOne K (.type n) (.ref (He.ga K "NoList")) = some false := of_decide_eq_true (List.all_eq_true.mp (T.c.fact 259 (f := Wk.kbB "NoList")) n h)
theorem Tx.ki_WeekError_NoList (T : Tx K mg) : PySem.W.kitOne K (.ref (He.ga K "WeekError")) (.ref (He.ga K "NoList")) = some false := of_decide_eq_true (T.c.fact 260 (f := Wk.kiB "WeekError" "NoList" false))
theorem Tx.ki_MissError_NoList (T : Tx K mg) : PySem.W.kitOne K (.ref (He.ga K "MissError")) (.ref (He.ga K "NoList")) = some false := of_decide_eq_true (T.c.fact 261 (f := Wk.kiB "MissError" "NoList" false))
theorem Tx.ki_NoName_NoList (T : Tx K mg) : PySem.W.kitOne K (.ref (He.ga K "NoName")) (.ref (He.ga K "NoList")) = some false := of_decide_eq_true (T.c.fact 262 (f := Wk.kiB "NoName" "NoList" false))
theorem Tx.ki_NoNumber_NoList (T : Tx K mg) : PySem.W.kitOne K (.ref (He.ga K "NoNumber")) (.ref (He.ga K "NoList")) = some false := of_decide_eq_true (T.c.fact 263 (f := Wk.kiB "NoNumber" "NoList" false))
theorem Tx.ki_NoSort_NoList (T : Tx K mg) : PySem.W.kitOne K (.ref (He.ga K "NoSort")) (.ref (He.ga K "NoList")) = some false := of_decide_eq_true (T.c.fact 264 (f := Wk.kiB "NoSort" "NoList" false))
theorem Tx.ki_NoYear_NoList (T : Tx K mg) : PySem.W.kitOne K (.ref (He.ga K "NoYear")) (.ref (He.ga K "NoList")) = some false := of_decide_eq_true (T.c.fact 265 (f := Wk.kiB "NoYear" "NoList" false))
theorem Tx.ki_NoWeek_NoList (T : Tx K mg) : PySem.W.kitOne K (.ref (He.ga K "NoWeek")) (.ref (He.ga K "NoList")) = some false := of_decide_eq_true (T.c.fact 266 (f := Wk.kiB "NoWeek" "NoList" false))
theorem Tx.ki_NoRow_NoList (T : Tx K mg) : PySem.W.kitOne K (.ref (He.ga K "NoRow")) (.ref (He.ga K "NoList")) = some false := of_decide_eq_true (T.c.fact 267 (f := Wk.kiB "NoRow" "NoList" false))
theorem Tx.ki_NoStay_NoList (T : Tx K mg) : PySem.W.kitOne K (.ref (He.ga K "NoStay")) (.ref (He.ga K "NoList")) = some false := of_decide_eq_true (T.c.fact 268 (f := Wk.kiB "NoStay" "NoList" false))
theorem Tx.ki_NoRests_NoList (T : Tx K mg) : PySem.W.kitOne K (.ref (He.ga K "NoRests")) (.ref (He.ga K "NoList")) = some false := of_decide_eq_true (T.c.fact 269 (f := Wk.kiB "NoRests" "NoList" false))
theorem Tx.ki_NoList_NoList (T : Tx K mg) : PySem.W.kitOne K (.ref (He.ga K "NoList")) (.ref (He.ga K "NoList")) = some true := of_decide_eq_true (T.c.fact 270 (f := Wk.kiB "NoList" "NoList" true))
theorem Tx.ki_Doubled_NoList (T : Tx K mg) : PySem.W.kitOne K (.ref (He.ga K "Doubled")) (.ref (He.ga K "NoList")) = some false := of_decide_eq_true (T.c.fact 271 (f := Wk.kiB "Doubled" "NoList" false))
theorem Tx.ki_TooMany_NoList (T : Tx K mg) : PySem.W.kitOne K (.ref (He.ga K "TooMany")) (.ref (He.ga K "NoList")) = some false := of_decide_eq_true (T.c.fact 272 (f := Wk.kiB "TooMany" "NoList" false))
theorem Tx.ki_NotThere_NoList (T : Tx K mg) : PySem.W.kitOne K (.ref (He.ga K "NotThere")) (.ref (He.ga K "NoList")) = some false := of_decide_eq_true (T.c.fact 273 (f := Wk.kiB "NotThere" "NoList" false))
theorem Tx.kb_Doubled (T : Tx K mg) {n : String} (h : n ∈ seven) : PySem.W.kitOne K (.type n) (.ref (He.ga K "Doubled")) = some false := of_decide_eq_true (List.all_eq_true.mp (T.c.fact 274 (f := Wk.kbB "Doubled")) n h)
theorem Tx.ki_WeekError_Doubled (T : Tx K mg) : PySem.W.kitOne K (.ref (He.ga K "WeekError")) (.ref (He.ga K "Doubled")) = some false := of_decide_eq_true (T.c.fact 275 (f := Wk.kiB "WeekError" "Doubled" false))
theorem Tx.ki_MissError_Doubled (T : Tx K mg) : PySem.W.kitOne K (.ref (He.ga K "MissError")) (.ref (He.ga K "Doubled")) = some false := of_decide_eq_true (T.c.fact 276 (f := Wk.kiB "MissError" "Doubled" false))
theorem Tx.ki_NoName_Doubled (T : Tx K mg) : PySem.W.kitOne K (.ref (He.ga K "NoName")) (.ref (He.ga K "Doubled")) = some false := of_decide_eq_true (T.c.fact 277 (f := Wk.kiB "NoName" "Doubled" false))
theorem Tx.ki_NoNumber_Doubled (T : Tx K mg) : PySem.W.kitOne K (.ref (He.ga K "NoNumber")) (.ref (He.ga K "Doubled")) = some false := of_decide_eq_true (T.c.fact 278 (f := Wk.kiB "NoNumber" "Doubled" false))
theorem Tx.ki_NoSort_Doubled (T : Tx K mg) : PySem.W.kitOne K (.ref (He.ga K "NoSort")) (.ref (He.ga K "Doubled")) = some false := of_decide_eq_true (T.c.fact 279 (f := Wk.kiB "NoSort" "Doubled" false))
theorem Tx.ki_NoYear_Doubled (T : Tx K mg) : PySem.W.kitOne K (.ref (He.ga K "NoYear")) (.ref (He.ga K "Doubled")) = some false := of_decide_eq_true (T.c.fact 280 (f := Wk.kiB "NoYear" "Doubled" false))
theorem Tx.ki_NoWeek_Doubled (T : Tx K mg) : PySem.W.kitOne K (.ref (He.ga K "NoWeek")) (.ref (He.ga K "Doubled")) = some false := of_decide_eq_true (T.c.fact 281 (f := Wk.kiB "NoWeek" "Doubled" false))
theorem Tx.ki_NoRow_Doubled (T : Tx K mg) : PySem.W.kitOne K (.ref (He.ga K "NoRow")) (.ref (He.ga K "Doubled")) = some false := of_decide_eq_true (T.c.fact 282 (f := Wk.kiB "NoRow" "Doubled" false))
theorem Tx.ki_NoStay_Doubled (T : Tx K mg) : PySem.W.kitOne K (.ref (He.ga K "NoStay")) (.ref (He.ga K "Doubled")) = some false := of_decide_eq_true (T.c.fact 283 (f := Wk.kiB "NoStay" "Doubled" false))
theorem Tx.ki_NoRests_Doubled (T : Tx K mg) : PySem.W.kitOne K (.ref (He.ga K "NoRests")) (.ref (He.ga K "Doubled")) = some false := of_decide_eq_true (T.c.fact 284 (f := Wk.kiB "NoRests" "Doubled" false))
theorem Tx.ki_NoList_Doubled (T : Tx K mg) : PySem.W.kitOne K (.ref (He.ga K "NoList")) (.ref (He.ga K "Doubled")) = some false := of_decide_eq_true (T.c.fact 285 (f := Wk.kiB "NoList" "Doubled" false))
theorem Tx.ki_Doubled_Doubled (T : Tx K mg) : PySem.W.kitOne K (.ref (He.ga K "Doubled")) (.ref (He.ga K "Doubled")) = some true := of_decide_eq_true (T.c.fact 286 (f := Wk.kiB "Doubled" "Doubled" true))
theorem Tx.ki_TooMany_Doubled (T : Tx K mg) : PySem.W.kitOne K (.ref (He.ga K "TooMany")) (.ref (He.ga K "Doubled")) = some false := of_decide_eq_true (T.c.fact 287 (f := Wk.kiB "TooMany" "Doubled" false))
theorem Tx.ki_NotThere_Doubled (T : Tx K mg) : PySem.W.kitOne K (.ref (He.ga K "NotThere")) (.ref (He.ga K "Doubled")) = some false := of_decide_eq_true (T.c.fact 288 (f := Wk.kiB "NotThere" "Doubled" false))
theorem Tx.kb_TooMany (T : Tx K mg) {n : String} (h : n ∈ seven) : PySem.W.kitOne K (.type n) (.ref (He.ga K "TooMany")) = some false := of_decide_eq_true (List.all_eq_true.mp (T.c.fact 289 (f := Wk.kbB "TooMany")) n h)
theorem Tx.ki_WeekError_TooMany (T : Tx K mg) : PySem.W.kitOne K (.ref (He.ga K "WeekError")) (.ref (He.ga K "TooMany")) = some false := of_decide_eq_true (T.c.fact 290 (f := Wk.kiB "WeekError" "TooMany" false))
theorem Tx.ki_MissError_TooMany (T : Tx K mg) : PySem.W.kitOne K (.ref (He.ga K "MissError")) (.ref (He.ga K "TooMany")) = some false := of_decide_eq_true (T.c.fact 291 (f := Wk.kiB "MissError" "TooMany" false))
theorem Tx.ki_NoName_TooMany (T : Tx K mg) : PySem.W.kitOne K (.ref (He.ga K "NoName")) (.ref (He.ga K "TooMany")) = some false := of_decide_eq_true (T.c.fact 292 (f := Wk.kiB "NoName" "TooMany" false))
theorem Tx.ki_NoNumber_TooMany (T : Tx K mg) : PySem.W.kitOne K (.ref (He.ga K "NoNumber")) (.ref (He.ga K "TooMany")) = some false := of_decide_eq_true (T.c.fact 293 (f := Wk.kiB "NoNumber" "TooMany" false))
theorem Tx.ki_NoSort_TooMany (T : Tx K mg) : PySem.W.kitOne K (.ref (He.ga K "NoSort")) (.ref (He.ga K "TooMany")) = some false := of_decide_eq_true (T.c.fact 294 (f := Wk.kiB "NoSort" "TooMany" false))
theorem Tx.ki_NoYear_TooMany (T : Tx K mg) : PySem.W.kitOne K (.ref (He.ga K "NoYear")) (.ref (He.ga K "TooMany")) = some false := of_decide_eq_true (T.c.fact 295 (f := Wk.kiB "NoYear" "TooMany" false))
theorem Tx.ki_NoWeek_TooMany (T : Tx K mg) : PySem.W.kitOne K (.ref (He.ga K "NoWeek")) (.ref (He.ga K "TooMany")) = some false := of_decide_eq_true (T.c.fact 296 (f := Wk.kiB "NoWeek" "TooMany" false))
theorem Tx.ki_NoRow_TooMany (T : Tx K mg) : PySem.W.kitOne K (.ref (He.ga K "NoRow")) (.ref (He.ga K "TooMany")) = some false := of_decide_eq_true (T.c.fact 297 (f := Wk.kiB "NoRow" "TooMany" false))
theorem Tx.ki_NoStay_TooMany (T : Tx K mg) : PySem.W.kitOne K (.ref (He.ga K "NoStay")) (.ref (He.ga K "TooMany")) = some false := of_decide_eq_true (T.c.fact 298 (f := Wk.kiB "NoStay" "TooMany" false))
theorem Tx.ki_NoRests_TooMany (T : Tx K mg) : PySem.W.kitOne K (.ref (He.ga K "NoRests")) (.ref (He.ga K "TooMany")) = some false := of_decide_eq_true (T.c.fact 299 (f := Wk.kiB "NoRests" "TooMany" false))
theorem Tx.ki_NoList_TooMany (T : Tx K mg) : PySem.W.kitOne K (.ref (He.ga K "NoList")) (.ref (He.ga K "TooMany")) = some false := of_decide_eq_true (T.c.fact 300 (f := Wk.kiB "NoList" "TooMany" false))
theorem Tx.ki_Doubled_TooMany (T : Tx K mg) : PySem.W.kitOne K (.ref (He.ga K "Doubled")) (.ref (He.ga K "TooMany")) = some false := of_decide_eq_true (T.c.fact 301 (f := Wk.kiB "Doubled" "TooMany" false))
theorem Tx.ki_TooMany_TooMany (T : Tx K mg) : PySem.W.kitOne K (.ref (He.ga K "TooMany")) (.ref (He.ga K "TooMany")) = some true := of_decide_eq_true (T.c.fact 302 (f := Wk.kiB "TooMany" "TooMany" true))
theorem Tx.ki_NotThere_TooMany (T : Tx K mg) : PySem.W.kitOne K (.ref (He.ga K "NotThere")) (.ref (He.ga K "TooMany")) = some false := of_decide_eq_true (T.c.fact 303 (f := Wk.kiB "NotThere" "TooMany" false))
theorem Tx.kb_NotThere (T : Tx K mg) {n : String} (h : n ∈ seven) : PySem.W.kitOne K (.type n) (.ref (He.ga K "NotThere")) = some false := of_decide_eq_true (List.all_eq_true.mp (T.c.fact 304 (f := Wk.kbB "NotThere")) n h)
theorem Tx.ki_WeekError_NotThere (T : Tx K mg) : PySem.W.kitOne K (.ref (He.ga K "WeekError")) (.ref (He.ga K "NotThere")) = some false := of_decide_eq_true (T.c.fact 305 (f := Wk.kiB "WeekError" "NotThere" false))
theorem Tx.ki_MissError_NotThere (T : Tx K mg) : PySem.W.kitOne K (.ref (He.ga K "MissError")) (.ref (He.ga K "NotThere")) = some false := of_decide_eq_true (T.c.fact 306 (f := Wk.kiB "MissError" "NotThere" false))
theorem Tx.ki_NoName_NotThere (T : Tx K mg) : PySem.W.kitOne K (.ref (He.ga K "NoName")) (.ref (He.ga K "NotThere")) = some false := of_decide_eq_true (T.c.fact 307 (f := Wk.kiB "NoName" "NotThere" false))
theorem Tx.ki_NoNumber_NotThere (T : Tx K mg) : PySem.W.kitOne K (.ref (He.ga K "NoNumber")) (.ref (He.ga K "NotThere")) = some false := of_decide_eq_true (T.c.fact 308 (f := Wk.kiB "NoNumber" "NotThere" false))
theorem Tx.ki_NoSort_NotThere (T : Tx K mg) : PySem.W.kitOne K (.ref (He.ga K "NoSort")) (.ref (He.ga K "NotThere")) = some false := of_decide_eq_true (T.c.fact 309 (f := Wk.kiB "NoSort" "NotThere" false))
theorem Tx.ki_NoYear_NotThere (T : Tx K mg) : PySem.W.kitOne K (.ref (He.ga K "NoYear")) (.ref (He.ga K "NotThere")) = some false := of_decide_eq_true (T.c.fact 310 (f := Wk.kiB "NoYear" "NotThere" false))
theorem Tx.ki_NoWeek_NotThere (T : Tx K mg) : PySem.W.kitOne K (.ref (He.ga K "NoWeek")) (.ref (He.ga K "NotThere")) = some false := of_decide_eq_true (T.c.fact 311 (f := Wk.kiB "NoWeek" "NotThere" false))
theorem Tx.ki_NoRow_NotThere (T : Tx K mg) : PySem.W.kitOne K (.ref (He.ga K "NoRow")) (.ref (He.ga K "NotThere")) = some false := of_decide_eq_true (T.c.fact 312 (f := Wk.kiB "NoRow" "NotThere" false))
theorem Tx.ki_NoStay_NotThere (T : Tx K mg) : PySem.W.kitOne K (.ref (He.ga K "NoStay")) (.ref (He.ga K "NotThere")) = some false := of_decide_eq_true (T.c.fact 313 (f := Wk.kiB "NoStay" "NotThere" false))
theorem Tx.ki_NoRests_NotThere (T : Tx K mg) : PySem.W.kitOne K (.ref (He.ga K "NoRests")) (.ref (He.ga K "NotThere")) = some false := of_decide_eq_true (T.c.fact 314 (f := Wk.kiB "NoRests" "NotThere" false))
theorem Tx.ki_NoList_NotThere (T : Tx K mg) : PySem.W.kitOne K (.ref (He.ga K "NoList")) (.ref (He.ga K "NotThere")) = some false := of_decide_eq_true (T.c.fact 315 (f := Wk.kiB "NoList" "NotThere" false))
theorem Tx.ki_Doubled_NotThere (T : Tx K mg) : PySem.W.kitOne K (.ref (He.ga K "Doubled")) (.ref (He.ga K "NotThere")) = some false := of_decide_eq_true (T.c.fact 316 (f := Wk.kiB "Doubled" "NotThere" false))
theorem Tx.ki_TooMany_NotThere (T : Tx K mg) : PySem.W.kitOne K (.ref (He.ga K "TooMany")) (.ref (He.ga K "NotThere")) = some false := of_decide_eq_true (T.c.fact 317 (f := Wk.kiB "TooMany" "NotThere" false))
theorem Tx.ki_NotThere_NotThere (T : Tx K mg) : PySem.W.kitOne K (.ref (He.ga K "NotThere")) (.ref (He.ga K "NotThere")) = some true := of_decide_eq_true (T.c.fact 318 (f := Wk.kiB "NotThere" "NotThere" true))
theorem Tx.nol (T : Tx K mg) : noList K = true := T.c.fact 319
theorem Tx.sys (T : Tx K mg) : HasSys K := Option.isSome_iff_exists.mp (T.c.fact 320)
theorem Tx.f_NoName_init (T : Tx K mg) : FD K "__init__" "NoName.__init__" s_NoName_init [] (a_NoName_init K) := let ⟨_, F⟩ := T.c.def_ 0 (d := d_NoName_init); fd_of F
theorem Tx.k_NoName_init (T : Tx K mg) : PySem.W.keepIn K (.ref (a_NoName_init K)) = true := T.f_NoName_init.kp
theorem Tx.b_NoName_init (T : Tx K mg) : Binds K (fdOf K (a_NoName_init K)) ["self", "found"] [] := FunD.bindsN T.f_NoName_init fun _ _ _ _ _ _ us hl => match us, hl with | [_, _], _ => rfl
theorem Tx.f_NoNumber_init (T : Tx K mg) : FD K "__init__" "NoNumber.__init__" s_NoNumber_init [] (a_NoNumber_init K) := let ⟨_, F⟩ := T.c.def_ 1 (d := d_NoNumber_init); fd_of F
theorem Tx.k_NoNumber_init (T : Tx K mg) : PySem.W.keepIn K (.ref (a_NoNumber_init K)) = true := T.f_NoNumber_init.kp
theorem Tx.b_NoNumber_init (T : Tx K mg) : Binds K (fdOf K (a_NoNumber_init K)) ["self", "found"] [] := FunD.bindsN T.f_NoNumber_init fun _ _ _ _ _ _ us hl => match us, hl with | [_, _], _ => rfl
theorem Tx.f_NoSort_init (T : Tx K mg) : FD K "__init__" "NoSort.__init__" s_NoSort_init [] (a_NoSort_init K) := let ⟨_, F⟩ := T.c.def_ 2 (d := d_NoSort_init); fd_of F
theorem Tx.k_NoSort_init (T : Tx K mg) : PySem.W.keepIn K (.ref (a_NoSort_init K)) = true := T.f_NoSort_init.kp
theorem Tx.b_NoSort_init (T : Tx K mg) : Binds K (fdOf K (a_NoSort_init K)) ["self", "found"] [] := FunD.bindsN T.f_NoSort_init fun _ _ _ _ _ _ us hl => match us, hl with | [_, _], _ => rfl
theorem Tx.f_NoYear_init (T : Tx K mg) : FD K "__init__" "NoYear.__init__" s_NoYear_init [] (a_NoYear_init K) := let ⟨_, F⟩ := T.c.def_ 3 (d := d_NoYear_init); fd_of F
theorem Tx.k_NoYear_init (T : Tx K mg) : PySem.W.keepIn K (.ref (a_NoYear_init K)) = true := T.f_NoYear_init.kp
theorem Tx.b_NoYear_init (T : Tx K mg) : Binds K (fdOf K (a_NoYear_init K)) ["self", "found"] [] := FunD.bindsN T.f_NoYear_init fun _ _ _ _ _ _ us hl => match us, hl with | [_, _], _ => rfl
theorem Tx.f_NoWeek_init (T : Tx K mg) : FD K "__init__" "NoWeek.__init__" s_NoWeek_init [] (a_NoWeek_init K) := let ⟨_, F⟩ := T.c.def_ 4 (d := d_NoWeek_init); fd_of F
theorem Tx.k_NoWeek_init (T : Tx K mg) : PySem.W.keepIn K (.ref (a_NoWeek_init K)) = true := T.f_NoWeek_init.kp
theorem Tx.b_NoWeek_init (T : Tx K mg) : Binds K (fdOf K (a_NoWeek_init K)) ["self", "found"] [] := FunD.bindsN T.f_NoWeek_init fun _ _ _ _ _ _ us hl => match us, hl with | [_, _], _ => rfl
theorem Tx.f_NoRow_init (T : Tx K mg) : FD K "__init__" "NoRow.__init__" s_NoRow_init [] (a_NoRow_init K) := let ⟨_, F⟩ := T.c.def_ 5 (d := d_NoRow_init); fd_of F
theorem Tx.k_NoRow_init (T : Tx K mg) : PySem.W.keepIn K (.ref (a_NoRow_init K)) = true := T.f_NoRow_init.kp
theorem Tx.b_NoRow_init (T : Tx K mg) : Binds K (fdOf K (a_NoRow_init K)) ["self", "found"] [] := FunD.bindsN T.f_NoRow_init fun _ _ _ _ _ _ us hl => match us, hl with | [_, _], _ => rfl
theorem Tx.f_NoStay_init (T : Tx K mg) : FD K "__init__" "NoStay.__init__" s_NoStay_init [] (a_NoStay_init K) := let ⟨_, F⟩ := T.c.def_ 6 (d := d_NoStay_init); fd_of F
theorem Tx.k_NoStay_init (T : Tx K mg) : PySem.W.keepIn K (.ref (a_NoStay_init K)) = true := T.f_NoStay_init.kp
theorem Tx.b_NoStay_init (T : Tx K mg) : Binds K (fdOf K (a_NoStay_init K)) ["self", "found"] [] := FunD.bindsN T.f_NoStay_init fun _ _ _ _ _ _ us hl => match us, hl with | [_, _], _ => rfl
theorem Tx.f_NoRests_init (T : Tx K mg) : FD K "__init__" "NoRests.__init__" s_NoRests_init [] (a_NoRests_init K) := let ⟨_, F⟩ := T.c.def_ 7 (d := d_NoRests_init); fd_of F
theorem Tx.k_NoRests_init (T : Tx K mg) : PySem.W.keepIn K (.ref (a_NoRests_init K)) = true := T.f_NoRests_init.kp
theorem Tx.b_NoRests_init (T : Tx K mg) : Binds K (fdOf K (a_NoRests_init K)) ["self", "found"] [] := FunD.bindsN T.f_NoRests_init fun _ _ _ _ _ _ us hl => match us, hl with | [_, _], _ => rfl
theorem Tx.f_NoList_init (T : Tx K mg) : FD K "__init__" "NoList.__init__" s_NoList_init [] (a_NoList_init K) := let ⟨_, F⟩ := T.c.def_ 8 (d := d_NoList_init); fd_of F
theorem Tx.k_NoList_init (T : Tx K mg) : PySem.W.keepIn K (.ref (a_NoList_init K)) = true := T.f_NoList_init.kp
theorem Tx.b_NoList_init (T : Tx K mg) : Binds K (fdOf K (a_NoList_init K)) ["self", "found"] [] := FunD.bindsN T.f_NoList_init fun _ _ _ _ _ _ us hl => match us, hl with | [_, _], _ => rfl
theorem Tx.f_Doubled_init (T : Tx K mg) : FD K "__init__" "Doubled.__init__" s_Doubled_init [] (a_Doubled_init K) := let ⟨_, F⟩ := T.c.def_ 9 (d := d_Doubled_init); fd_of F
theorem Tx.k_Doubled_init (T : Tx K mg) : PySem.W.keepIn K (.ref (a_Doubled_init K)) = true := T.f_Doubled_init.kp
theorem Tx.b_Doubled_init (T : Tx K mg) : Binds K (fdOf K (a_Doubled_init K)) ["self", "found"] [] := FunD.bindsN T.f_Doubled_init fun _ _ _ _ _ _ us hl => match us, hl with | [_, _], _ => rfl
theorem Tx.f_TooMany_init (T : Tx K mg) : FD K "__init__" "TooMany.__init__" s_TooMany_init [] (a_TooMany_init K) := let ⟨_, F⟩ := T.c.def_ 10 (d := d_TooMany_init); fd_of F
theorem Tx.k_TooMany_init (T : Tx K mg) : PySem.W.keepIn K (.ref (a_TooMany_init K)) = true := T.f_TooMany_init.kp
theorem Tx.b_TooMany_init (T : Tx K mg) : Binds K (fdOf K (a_TooMany_init K)) ["self", "many"] [] := FunD.bindsN T.f_TooMany_init fun _ _ _ _ _ _ us hl => match us, hl with | [_, _], _ => rfl
theorem Tx.f_NotThere_init (T : Tx K mg) : FD K "__init__" "NotThere.__init__" s_NotThere_init [] (a_NotThere_init K) := let ⟨_, F⟩ := T.c.def_ 11 (d := d_NotThere_init); fd_of F
theorem Tx.k_NotThere_init (T : Tx K mg) : PySem.W.keepIn K (.ref (a_NotThere_init K)) = true := T.f_NotThere_init.kp
theorem Tx.b_NotThere_init (T : Tx K mg) : Binds K (fdOf K (a_NotThere_init K)) ["self", "found"] [] := FunD.bindsN T.f_NotThere_init fun _ _ _ _ _ _ us hl => match us, hl with | [_, _], _ => rfl
theorem Tx.f_l_cell (T : Tx K mg) : FD K "_law_cell" "_law_cell" s_l_cell [] (a_l_cell K) := let ⟨_, F⟩ := T.c.def_ 12 (d := d_l_cell); fd_of F
theorem Tx.k_l_cell (T : Tx K mg) : PySem.W.keepIn K (.ref (a_l_cell K)) = true := T.f_l_cell.kp
theorem Tx.b_l_cell (T : Tx K mg) : Binds K (fdOf K (a_l_cell K)) ["script", "k"] [] := FunD.bindsN T.f_l_cell fun _ _ _ _ _ _ us hl => match us, hl with | [_, _], _ => rfl
theorem Tx.f_l_box (T : Tx K mg) : FD K "_law_box" "_law_box" s_l_box [] (a_l_box K) := let ⟨_, F⟩ := T.c.def_ 13 (d := d_l_box); fd_of F
theorem Tx.k_l_box (T : Tx K mg) : PySem.W.keepIn K (.ref (a_l_box K)) = true := T.f_l_box.kp
theorem Tx.b_l_box (T : Tx K mg) : Binds K (fdOf K (a_l_box K)) ["cell"] [] := FunD.bindsN T.f_l_box fun _ _ _ _ _ _ us hl => match us, hl with | [_], _ => rfl
theorem Tx.f_l_take (T : Tx K mg) : FD K "_law_take" "_law_take" s_l_take [] (a_l_take K) := let ⟨_, F⟩ := T.c.def_ 14 (d := d_l_take); fd_of F
theorem Tx.k_l_take (T : Tx K mg) : PySem.W.keepIn K (.ref (a_l_take K)) = true := T.f_l_take.kp
theorem Tx.b_l_take (T : Tx K mg) : Binds K (fdOf K (a_l_take K)) ["box", "many"] [] := FunD.bindsN T.f_l_take fun _ _ _ _ _ _ us hl => match us, hl with | [_, _], _ => rfl
theorem Tx.f_l_thing (T : Tx K mg) : FD K "_law_thing" "_law_thing" s_l_thing [] (a_l_thing K) := let ⟨_, F⟩ := T.c.def_ 15 (d := d_l_thing); fd_of F
theorem Tx.k_l_thing (T : Tx K mg) : PySem.W.keepIn K (.ref (a_l_thing K)) = true := T.f_l_thing.kp
theorem Tx.b_l_thing (T : Tx K mg) : Binds K (fdOf K (a_l_thing K)) ["box"] [] := FunD.bindsN T.f_l_thing fun _ _ _ _ _ _ us hl => match us, hl with | [_], _ => rfl
theorem Tx.f_l_first (T : Tx K mg) : FD K "_law_first" "_law_first" s_l_first [] (a_l_first K) := let ⟨_, F⟩ := T.c.def_ 16 (d := d_l_first); fd_of F
theorem Tx.k_l_first (T : Tx K mg) : PySem.W.keepIn K (.ref (a_l_first K)) = true := T.f_l_first.kp
theorem Tx.b_l_first (T : Tx K mg) : Binds K (fdOf K (a_l_first K)) ["which", "one"] [] := FunD.bindsN T.f_l_first fun _ _ _ _ _ _ us hl => match us, hl with | [_, _], _ => rfl
theorem Tx.f_l_made (T : Tx K mg) : FD K "_law_made" "_law_made" s_l_made [] (a_l_made K) := let ⟨_, F⟩ := T.c.def_ 17 (d := d_l_made); fd_of F
theorem Tx.k_l_made (T : Tx K mg) : PySem.W.keepIn K (.ref (a_l_made K)) = true := T.f_l_made.kp
theorem Tx.b_l_made (T : Tx K mg) : Binds K (fdOf K (a_l_made K)) ["which", "one"] [] := FunD.bindsN T.f_l_made fun _ _ _ _ _ _ us hl => match us, hl with | [_, _], _ => rfl
theorem Tx.f_l_kinds (T : Tx K mg) : FD K "_law_kinds" "_law_kinds" s_l_kinds [] (a_l_kinds K) := let ⟨_, F⟩ := T.c.def_ 18 (d := d_l_kinds); fd_of F
theorem Tx.k_l_kinds (T : Tx K mg) : PySem.W.keepIn K (.ref (a_l_kinds K)) = true := T.f_l_kinds.kp
theorem Tx.b_l_kinds (T : Tx K mg) : Binds K (fdOf K (a_l_kinds K)) ["e"] [] := FunD.bindsN T.f_l_kinds fun _ _ _ _ _ _ us hl => match us, hl with | [_], _ => rfl
theorem Tx.f_l_families (T : Tx K mg) : FD K "_law_families" "_law_families" s_l_families [] (a_l_families K) := let ⟨_, F⟩ := T.c.def_ 19 (d := d_l_families); fd_of F
theorem Tx.k_l_families (T : Tx K mg) : PySem.W.keepIn K (.ref (a_l_families K)) = true := T.f_l_families.kp
theorem Tx.b_l_families (T : Tx K mg) : Binds K (fdOf K (a_l_families K)) ["e"] [] := FunD.bindsN T.f_l_families fun _ _ _ _ _ _ us hl => match us, hl with | [_], _ => rfl
theorem Tx.f_l_right (T : Tx K mg) : FD K "_law_right" "_law_right" s_l_right [] (a_l_right K) := let ⟨_, F⟩ := T.c.def_ 20 (d := d_l_right); fd_of F
theorem Tx.k_l_right (T : Tx K mg) : PySem.W.keepIn K (.ref (a_l_right K)) = true := T.f_l_right.kp
theorem Tx.b_l_right (T : Tx K mg) : Binds K (fdOf K (a_l_right K)) ["which", "one", "other"] [] := FunD.bindsN T.f_l_right fun _ _ _ _ _ _ us hl => match us, hl with | [_, _, _], _ => rfl
theorem Tx.f_l_texts (T : Tx K mg) : FD K "_law_texts" "_law_texts" s_l_texts [] (a_l_texts K) := let ⟨_, F⟩ := T.c.def_ 21 (d := d_l_texts); fd_of F
theorem Tx.k_l_texts (T : Tx K mg) : PySem.W.keepIn K (.ref (a_l_texts K)) = true := T.f_l_texts.kp
theorem Tx.b_l_texts (T : Tx K mg) : Binds K (fdOf K (a_l_texts K)) ["text"] [] := FunD.bindsN T.f_l_texts fun _ _ _ _ _ _ us hl => match us, hl with | [_], _ => rfl
theorem Tx.f_law (T : Tx K mg) : FD K "law" "law" s_law [] (a_law K) := let ⟨_, F⟩ := T.c.def_ 22 (d := d_law); fd_of F
theorem Tx.k_law (T : Tx K mg) : PySem.W.keepIn K (.ref (a_law K)) = true := T.f_law.kp
theorem Tx.b_law (T : Tx K mg) : Binds K (fdOf K (a_law K)) ["script"] [] := FunD.bindsN T.f_law fun _ _ _ _ _ _ us hl => match us, hl with | [_], _ => rfl
theorem Tx.kb_NoRow_init_1_found (T : Tx K mg) : KB K (fdOf K (a_NoRow_init K)) ["self", "found"] 1 ["found"] (fun vs zs => gI [0, 1] (vs ++ zs)) := kb_n T.f_NoRow_init (fun vs zs => gI [0, 1] (vs ++ zs)) (fun r1 r2 => vals_gI (Vals.append r1 r2) _) fun _ _ _ _ _ _ us ws l1 l2 => match us, ws, l1, l2 with | [_], [_], _, _ => rfl
theorem Tx.kb_TooMany_init_1_many (T : Tx K mg) : KB K (fdOf K (a_TooMany_init K)) ["self", "many"] 1 ["many"] (fun vs zs => gI [0, 1] (vs ++ zs)) := kb_n T.f_TooMany_init (fun vs zs => gI [0, 1] (vs ++ zs)) (fun r1 r2 => vals_gI (Vals.append r1 r2) _) fun _ _ _ _ _ _ us ws l1 l2 => match us, ws, l1, l2 with | [_], [_], _, _ => rfl
end
theorem sc_NoName_init : FnScope ["self", "found"] ["self", "found"] (defScope s_NoName_init) := ⟨rfl, rfl, rfl, by decide +kernel, rfl, by decide +kernel, by decide +kernel⟩
theorem sc_NoNumber_init : FnScope ["self", "found"] ["self", "found"] (defScope s_NoNumber_init) := ⟨rfl, rfl, rfl, by decide +kernel, rfl, by decide +kernel, by decide +kernel⟩
theorem sc_NoSort_init : FnScope ["self", "found"] ["self", "found"] (defScope s_NoSort_init) := ⟨rfl, rfl, rfl, by decide +kernel, rfl, by decide +kernel, by decide +kernel⟩
theorem sc_NoYear_init : FnScope ["self", "found"] ["self", "found"] (defScope s_NoYear_init) := ⟨rfl, rfl, rfl, by decide +kernel, rfl, by decide +kernel, by decide +kernel⟩
theorem sc_NoWeek_init : FnScope ["self", "found"] ["self", "found"] (defScope s_NoWeek_init) := ⟨rfl, rfl, rfl, by decide +kernel, rfl, by decide +kernel, by decide +kernel⟩
theorem sc_NoRow_init : FnScope ["self", "found"] ["self", "found"] (defScope s_NoRow_init) := ⟨rfl, rfl, rfl, by decide +kernel, rfl, by decide +kernel, by decide +kernel⟩
theorem sc_NoStay_init : FnScope ["self", "found"] ["self", "found"] (defScope s_NoStay_init) := ⟨rfl, rfl, rfl, by decide +kernel, rfl, by decide +kernel, by decide +kernel⟩
theorem sc_NoRests_init : FnScope ["self", "found"] ["self", "found"] (defScope s_NoRests_init) := ⟨rfl, rfl, rfl, by decide +kernel, rfl, by decide +kernel, by decide +kernel⟩
theorem sc_NoList_init : FnScope ["self", "found"] ["self", "found"] (defScope s_NoList_init) := ⟨rfl, rfl, rfl, by decide +kernel, rfl, by decide +kernel, by decide +kernel⟩
theorem sc_Doubled_init : FnScope ["self", "found"] ["self", "found"] (defScope s_Doubled_init) := ⟨rfl, rfl, rfl, by decide +kernel, rfl, by decide +kernel, by decide +kernel⟩
theorem sc_TooMany_init : FnScope ["self", "many"] ["self", "many"] (defScope s_TooMany_init) := ⟨rfl, rfl, rfl, by decide +kernel, rfl, by decide +kernel, by decide +kernel⟩
theorem sc_NotThere_init : FnScope ["self", "found"] ["self", "found"] (defScope s_NotThere_init) := ⟨rfl, rfl, rfl, by decide +kernel, rfl, by decide +kernel, by decide +kernel⟩
theorem sc_l_cell : FnScope ["script", "k"] ["script", "k"] (defScope s_l_cell) := ⟨rfl, rfl, rfl, by decide +kernel, rfl, by decide +kernel, by decide +kernel⟩
theorem sc_l_box : FnScope ["cell"] ["cell"] (defScope s_l_box) := ⟨rfl, rfl, rfl, by decide +kernel, rfl, by decide +kernel, by decide +kernel⟩
theorem sc_l_take : FnScope ["box", "many", "digit", "one", "other"] ["box", "many"] (defScope s_l_take) := ⟨rfl, rfl, rfl, by decide +kernel, rfl, by decide +kernel, by decide +kernel⟩
theorem sc_l_thing : FnScope ["box", "some"] ["box"] (defScope s_l_thing) := ⟨rfl, rfl, rfl, by decide +kernel, rfl, by decide +kernel, by decide +kernel⟩
theorem sc_l_first : FnScope ["which", "one"] ["which", "one"] (defScope s_l_first) := ⟨rfl, rfl, rfl, by decide +kernel, rfl, by decide +kernel, by decide +kernel⟩
theorem sc_l_made : FnScope ["which", "one", "e", "some", "twice", "more", "gone"] ["which", "one"] (defScope s_l_made) := ⟨rfl, rfl, rfl, by decide +kernel, rfl, by decide +kernel, by decide +kernel⟩
theorem sc_l_kinds : FnScope ["e", "row"] ["e"] (defScope s_l_kinds) := ⟨rfl, rfl, rfl, by decide +kernel, rfl, by decide +kernel, by decide +kernel⟩
theorem sc_l_families : FnScope ["e", "row"] ["e"] (defScope s_l_families) := ⟨rfl, rfl, rfl, by decide +kernel, rfl, by decide +kernel, by decide +kernel⟩
theorem sc_l_right : FnScope ["which", "one", "other", "e", "value", "second", "more", "k"] ["which", "one", "other"] (defScope s_l_right) := ⟨rfl, rfl, rfl, by decide +kernel, rfl, by decide +kernel, by decide +kernel⟩
theorem sc_l_texts : FnScope ["text", "one", "other"] ["text"] (defScope s_l_texts) := ⟨rfl, rfl, rfl, by decide +kernel, rfl, by decide +kernel, by decide +kernel⟩
theorem sc_law : FnScope ["script", "k", "box", "which"] ["script"] (defScope s_law) := ⟨rfl, rfl, rfl, by decide +kernel, rfl, by decide +kernel, by decide +kernel⟩
theorem ok_NoName_init {P : Program} {w : World} {K : PySem.W.Frag} {mg : Str → Option Value} {base : Heap} (T : Tx K mg) : FnOk P w K mg base CX0 2 (a_NoName_init K) (fdOf K (a_NoName_init K)) ["self", "found"] (XG.spInitG XG.ve K (He.ga K "NoName") "found" "what is no name") :=
  FunD.ok T.f_NoName_init sc_NoName_init (fun vs H Q E h => XG.spInitG_len h) (fun cdv A outer s H vs Q E hr h => ⟨_, (pss_cons (ps_expr (XG.pe_binitG (f := "found") T.y_WeekError rfl (pa_cons (pv 0) (pa_cons pe_str pa_nil))))
 (pss_one (XG.ps_ostG (pv 0) (pv 1)))), XG.init_plainG h⟩)
theorem ok_NoNumber_init {P : Program} {w : World} {K : PySem.W.Frag} {mg : Str → Option Value} {base : Heap} (T : Tx K mg) : FnOk P w K mg base CX0 2 (a_NoNumber_init K) (fdOf K (a_NoNumber_init K)) ["self", "found"] (XG.spInitG XG.ve K (He.ga K "NoNumber") "found" "what is no number within its bounds") :=
  FunD.ok T.f_NoNumber_init sc_NoNumber_init (fun vs H Q E h => XG.spInitG_len h) (fun cdv A outer s H vs Q E hr h => ⟨_, (pss_cons (ps_expr (XG.pe_binitG (f := "found") T.y_WeekError rfl (pa_cons (pv 0) (pa_cons pe_str pa_nil))))
 (pss_one (XG.ps_ostG (pv 0) (pv 1)))), XG.init_plainG h⟩)
theorem ok_NoSort_init {P : Program} {w : World} {K : PySem.W.Frag} {mg : Str → Option Value} {base : Heap} (T : Tx K mg) : FnOk P w K mg base CX0 2 (a_NoSort_init K) (fdOf K (a_NoSort_init K)) ["self", "found"] (XG.spInitG XG.ve K (He.ga K "NoSort") "found" "what is no sort") :=
  FunD.ok T.f_NoSort_init sc_NoSort_init (fun vs H Q E h => XG.spInitG_len h) (fun cdv A outer s H vs Q E hr h => ⟨_, (pss_cons (ps_expr (XG.pe_binitG (f := "found") T.y_WeekError rfl (pa_cons (pv 0) (pa_cons pe_str pa_nil))))
 (pss_one (XG.ps_ostG (pv 0) (pv 1)))), XG.init_plainG h⟩)
theorem ok_NoYear_init {P : Program} {w : World} {K : PySem.W.Frag} {mg : Str → Option Value} {base : Heap} (T : Tx K mg) : FnOk P w K mg base CX0 2 (a_NoYear_init K) (fdOf K (a_NoYear_init K)) ["self", "found"] (XG.spInitG XG.ve K (He.ga K "NoYear") "found" "what is no year, or what none is made of") :=
  FunD.ok T.f_NoYear_init sc_NoYear_init (fun vs H Q E h => XG.spInitG_len h) (fun cdv A outer s H vs Q E hr h => ⟨_, (pss_cons (ps_expr (XG.pe_binitG (f := "found") T.y_WeekError rfl (pa_cons (pv 0) (pa_cons pe_str pa_nil))))
 (pss_one (XG.ps_ostG (pv 0) (pv 1)))), XG.init_plainG h⟩)
theorem ok_NoWeek_init {P : Program} {w : World} {K : PySem.W.Frag} {mg : Str → Option Value} {base : Heap} (T : Tx K mg) : FnOk P w K mg base CX0 2 (a_NoWeek_init K) (fdOf K (a_NoWeek_init K)) ["self", "found"] (XG.spInitG XG.ve K (He.ga K "NoWeek") "found" "what is no week") :=
  FunD.ok T.f_NoWeek_init sc_NoWeek_init (fun vs H Q E h => XG.spInitG_len h) (fun cdv A outer s H vs Q E hr h => ⟨_, (pss_cons (ps_expr (XG.pe_binitG (f := "found") T.y_WeekError rfl (pa_cons (pv 0) (pa_cons pe_str pa_nil))))
 (pss_one (XG.ps_ostG (pv 0) (pv 1)))), XG.init_plainG h⟩)
theorem ok_NoRow_init {P : Program} {w : World} {K : PySem.W.Frag} {mg : Str → Option Value} {base : Heap} (T : Tx K mg) : FnOk P w K mg base CX0 2 (a_NoRow_init K) (fdOf K (a_NoRow_init K)) ["self", "found"] (XG.spInitG XG.ve K (He.ga K "NoRow") "found" "what is no row") :=
  FunD.ok T.f_NoRow_init sc_NoRow_init (fun vs H Q E h => XG.spInitG_len h) (fun cdv A outer s H vs Q E hr h => ⟨_, (pss_cons (ps_expr (XG.pe_binitG (f := "found") T.y_WeekError rfl (pa_cons (pv 0) (pa_cons pe_str pa_nil))))
 (pss_one (XG.ps_ostG (pv 0) (pv 1)))), XG.init_plainG h⟩)
theorem ok_NoStay_init {P : Program} {w : World} {K : PySem.W.Frag} {mg : Str → Option Value} {base : Heap} (T : Tx K mg) : FnOk P w K mg base CX0 2 (a_NoStay_init K) (fdOf K (a_NoStay_init K)) ["self", "found"] (XG.spInitG XG.ve K (He.ga K "NoStay") "found" "what is no stay") :=
  FunD.ok T.f_NoStay_init sc_NoStay_init (fun vs H Q E h => XG.spInitG_len h) (fun cdv A outer s H vs Q E hr h => ⟨_, (pss_cons (ps_expr (XG.pe_binitG (f := "found") T.y_WeekError rfl (pa_cons (pv 0) (pa_cons pe_str pa_nil))))
 (pss_one (XG.ps_ostG (pv 0) (pv 1)))), XG.init_plainG h⟩)
theorem ok_NoRests_init {P : Program} {w : World} {K : PySem.W.Frag} {mg : Str → Option Value} {base : Heap} (T : Tx K mg) : FnOk P w K mg base CX0 2 (a_NoRests_init K) (fdOf K (a_NoRests_init K)) ["self", "found"] (XG.spInitG XG.ve K (He.ga K "NoRests") "found" "what are no rests") :=
  FunD.ok T.f_NoRests_init sc_NoRests_init (fun vs H Q E h => XG.spInitG_len h) (fun cdv A outer s H vs Q E hr h => ⟨_, (pss_cons (ps_expr (XG.pe_binitG (f := "found") T.y_WeekError rfl (pa_cons (pv 0) (pa_cons pe_str pa_nil))))
 (pss_one (XG.ps_ostG (pv 0) (pv 1)))), XG.init_plainG h⟩)
theorem ok_NoList_init {P : Program} {w : World} {K : PySem.W.Frag} {mg : Str → Option Value} {base : Heap} (T : Tx K mg) : FnOk P w K mg base CX0 2 (a_NoList_init K) (fdOf K (a_NoList_init K)) ["self", "found"] (XG.spInitG XG.ve K (He.ga K "NoList") "found" "what is no list as it is wanted") :=
  FunD.ok T.f_NoList_init sc_NoList_init (fun vs H Q E h => XG.spInitG_len h) (fun cdv A outer s H vs Q E hr h => ⟨_, (pss_cons (ps_expr (XG.pe_binitG (f := "found") T.y_WeekError rfl (pa_cons (pv 0) (pa_cons pe_str pa_nil))))
 (pss_one (XG.ps_ostG (pv 0) (pv 1)))), XG.init_plainG h⟩)
theorem ok_Doubled_init {P : Program} {w : World} {K : PySem.W.Frag} {mg : Str → Option Value} {base : Heap} (T : Tx K mg) : FnOk P w K mg base CX0 2 (a_Doubled_init K) (fdOf K (a_Doubled_init K)) ["self", "found"] (XG.spInitG XG.ve K (He.ga K "Doubled") "found" "a name that is there already") :=
  FunD.ok T.f_Doubled_init sc_Doubled_init (fun vs H Q E h => XG.spInitG_len h) (fun cdv A outer s H vs Q E hr h => ⟨_, (pss_cons (ps_expr (XG.pe_binitG (f := "found") T.y_WeekError rfl (pa_cons (pv 0) (pa_cons pe_str pa_nil))))
 (pss_one (XG.ps_ostG (pv 0) (pv 1)))), XG.init_plainG h⟩)
theorem ok_TooMany_init {P : Program} {w : World} {K : PySem.W.Frag} {mg : Str → Option Value} {base : Heap} (T : Tx K mg) : FnOk P w K mg base CX0 2 (a_TooMany_init K) (fdOf K (a_TooMany_init K)) ["self", "many"] (XG.spInitG XG.ve K (He.ga K "TooMany") "many" "more than there may be") :=
  FunD.ok T.f_TooMany_init sc_TooMany_init (fun vs H Q E h => XG.spInitG_len h) (fun cdv A outer s H vs Q E hr h => ⟨_, (pss_cons (ps_expr (XG.pe_binitG (f := "many") T.y_WeekError rfl (pa_cons (pv 0) (pa_cons pe_str pa_nil))))
 (pss_one (XG.ps_ostG (pv 0) (pv 1)))), XG.init_plainG h⟩)
theorem ok_NotThere_init {P : Program} {w : World} {K : PySem.W.Frag} {mg : Str → Option Value} {base : Heap} (T : Tx K mg) : FnOk P w K mg base CX0 2 (a_NotThere_init K) (fdOf K (a_NotThere_init K)) ["self", "found"] (XG.spInitG XG.le K (He.ga K "NotThere") "found" "what isn't there") :=
  FunD.ok T.f_NotThere_init sc_NotThere_init (fun vs H Q E h => XG.spInitG_len h) (fun cdv A outer s H vs Q E hr h => ⟨_, (pss_cons (ps_expr (XG.pe_binitG (f := "found") T.y_MissError rfl (pa_cons (pv 0) (pa_cons pe_str pa_nil))))
 (pss_one (XG.ps_ostG (pv 0) (pv 1)))), XG.init_plainG h⟩)
end Wk

set_option maxRecDepth 100000
set_option maxHeartbeats 0
namespace Wk
open PySem PySem.Spec PyProof.Rows L2
def ln0 : List Str := ["WeekError", "MissError", "NoName", "NoNumber", "NoSort", "NoYear", "NoWeek", "NoRow", "NoStay", "NoRests", "NoList", "Doubled", "TooMany", "NotThere", "_law_cell", "_law_box", "_law_take", "_law_thing", "_law_first", "_law_made", "_law_kinds", "_law_families", "_law_right", "_law_texts"]
def loose : List Str := ln0
abbrev Rw : PySem.W.OpenRow := PySem.W.OpenLaw.row PySem.Challenge.rw_weekheads_k04_refusals_apart
abbrev hk : PySem.W.Hook := WA.hookX cs fx fn
def ob (s : PySem.W.SharedT) : WA.AlX := WA.obsXG cs fx fn (HandSHeadRun.getT s)
theorem ob_eq (s : PySem.W.SharedT) : ob s = hk.obs s.abs := WA.obsXG_eq (HandSHeadRun.getT_eq s)
theorem run (w : World) : HandSHeadRun.RunEq Rw (PySem.W.view Rw.prog [26]) hk ob 20000 loose w := by
  intro os
  kernel_rfl

end Wk
section
open PySem PySem.W PySem.Calls PyProof.Rows
set_option maxRecDepth 100000 in
set_option maxHeartbeats 0 in
theorem Wk.lawFin (HC : ∀ {q : Program} {loose : List Str} {XP : (Str → Option Value) → Heap → Prop} {d : DefRec}, d.params.defaults = [] → d.name = "law" → PySem.W.WalkO q loose XP Wk.hk.says (PySem.W.OpenLaw.row PySem.Challenge.rw_weekheads_k04_refusals_apart).toRowW d [] (fun f vs => PySem.call f vs)) : PySem.Challenge.rw_weekheads_k04_refusals_apart.Holds := by
  w_on; o_law
  refine HandSHeadRun.head_any (r := OpenLaw.row PySem.Challenge.rw_weekheads_k04_refusals_apart) (q := view (OpenLaw.row PySem.Challenge.rw_weekheads_k04_refusals_apart).prog [26]) (H := Wk.hk) (ob := Wk.ob) (M := 20000) (loose := Wk.loose) (d := HandSHeadRun.topDef (OpenLaw.row PySem.Challenge.rw_weekheads_k04_refusals_apart).prog 26) (kwd := []) Wk.ob_eq
    (by kernel_rfl) (fun s => by kernel_rfl) Wk.run (by kernel_rfl) (by kernel_rfl) (by kernel_rfl) (by rfl) (by first | assumption | decide +kernel) (by decide +kernel) ⟨rfl, rfl, rfl, rfl, rfl, by decide +kernel⟩ ?hw ?hc
  case hw => w_witness2
  case hc => exact HC (by kernel_rfl) (by kernel_rfl)
end

set_option maxRecDepth 100000
set_option maxHeartbeats 4000000
namespace Wk
open PySem PySem.Spec PyProof.Rows L2
local macro_rules | `(tactic| walk_at "mem") => `(tactic| first
  | exact List.mem_cons_self ..
  | exact List.mem_cons_of_mem _ (List.mem_cons_self ..)
  | exact List.mem_cons_of_mem _ (List.mem_cons_of_mem _ (List.mem_cons_self ..))
  | exact List.mem_cons_of_mem _ (List.mem_cons_of_mem _ (List.mem_cons_of_mem _ (List.mem_cons_self ..)))
  | exact List.mem_cons_of_mem _ (List.mem_cons_of_mem _ (List.mem_cons_of_mem _ (List.mem_cons_of_mem _ (List.mem_cons_self ..)))))
local macro_rules | `(tactic| walk_at "dat") => `(tactic| first
  | assumption
  | (refine Ex.of ?_ (by assumption); walk_at "dat"))
local macro_rules | `(tactic| walk_at "ex") => `(tactic| first
  | assumption
  | exact Ex.refl _
  | (refine Ex.trans ?_ (by assumption); walk_at "ex"))
local macro_rules | `(tactic| walk_at "hp") => `(tactic| first
  | assumption
  | exact HI.get (by assumption) (by walk_at "mem")
  | exact HI.dat (by assumption) (by walk_at "dat"))
local macro_rules | `(tactic| walk_at "hi") => `(tactic| first
  | assumption
  | exact HI.swap (by assumption)
  | exact HI.up2 (by assumption)
  | exact HI.up3 (by assumption))
local macro_rules | `(tactic| walk_at "num") => `(tactic| first
  | omega
  | decide
  | exact ⟨by decide, by decide⟩
  | exact cdiv_of (by omega) (by omega)
  | exact ⟨by omega, by omega⟩
  | (refine ⟨by omega, by omega, ?_⟩; omega)
  | exact Or.inl ⟨by omega, by omega⟩
  | exact Or.inr ⟨by omega, by omega⟩)
local macro_rules | `(tactic| walk_at "kn") => `(tactic| first
  | assumption
  | exact Kn.int _
  | exact Kn.str _
  | exact Kn.bl _
  | exact Kn.non
  | exact HI.kn (by assumption) (by assumption)
  | exact HI.kn (by assumption) (Kn.mono (by assumption) (by assumption))
  | exact Kn.lst (by walk_at "hp")
  | exact Kn.tup (by walk_at "hp")
  | exact Kn.dict (by walk_at "hp"))
local macro_rules | `(tactic| walk_at "s1") => `(tactic| first
  | with_reducible refine st_seq ?_
  | with_reducible refine st_asg ?_
  | with_reducible refine st_ret ?_
  | with_reducible refine st_if ?_
  | with_reducible refine st_drop ?_
  | with_reducible refine st_next ?_
  | with_reducible refine st_brk ?_
  | with_reducible refine st_cont ?_
  | with_reducible refine sg_name ?_
  | with_reducible refine sg_sub ?_
  | with_reducible refine sg_nil ?_
  | with_reducible refine sg_cons ?_
  | ((with_reducible refine' sg_tup ?e1 ?e2 ?_); (case e1 => exact SqT.of (by walk_at "hp")); (case e2 => rfl))
  | ((with_reducible refine' se_var ?e1 ?_); (case e1 => rfl))
  | with_reducible refine se_c ?_
  | with_reducible refine se_op ?_
  | with_reducible refine se_un ?_
  | with_reducible refine se_tup ?_
  | with_reducible refine se_lst ?_
  | with_reducible refine se_lstM ?_
  | with_reducible refine st_for ?_
  | with_reducible refine se_lc ?_
  | with_reducible refine it_rng1 ?_
  | with_reducible refine it_rng2 ?_
  | with_reducible refine it_list ?_
  | with_reducible refine it_str ?_
  | with_reducible refine strI_mk ?_
  | ((with_reducible refine' list_mk ?e1 ?_); (case e1 => walk_at "hp"))
  | ((with_reducible refine' rng1_mk ?e1 ?e2 ?_); (case e1 => omega); (case e2 => omega))
  | ((with_reducible refine' rng2_mk ?e1 ?_); (case e1 => omega))
  | with_reducible refine st_yes ?_
  | ((with_reducible refine' al_D ?e1 ?_); (case e1 => assumption); intro _ _ _ _ _ _)
  | ((with_reducible refine' al_M ?e1 ?_); (case e1 => assumption); intro _ _ _)
  | ((with_reducible refine' and_on ?e1 ?_); (case e1 => first | exact small_ok (Nat.le_of_ble_eq_true rfl) | rfl | omega))
  | with_reducible refine sa_nil ?_
  | with_reducible refine sa_cons ?_
  | with_reducible refine se_cb ?_
  | with_reducible refine se_if ?_
  | with_reducible refine st_test ?_
  | with_reducible refine st_B ?_
  | with_reducible refine st_bl ?_
  | with_reducible refine st_and ?_
  | with_reducible refine st_or ?_
  | with_reducible refine st_not ?_
  | with_reducible refine ri0_mk ?_
  | with_reducible refine ru_mk ?_
  | ((with_reducible refine' ri_mk ?e1 ?_); (case e1 => walk_at "num"))
  | with_reducible refine RAdd.int ?_
  | ((with_reducible refine' RMul.int ?e1 ?_); (case e1 => walk_at "num"))
  | with_reducible refine req_int ?_
  | with_reducible refine rne_int ?_
  | with_reducible refine req_str ?_
  | with_reducible refine rne_str ?_
  | ((with_reducible refine' RIx.l ?e1 ?e2 ?_); (case e1 => walk_at "hp"); (case e2 => rfl))
  | ((with_reducible refine' set_c ?e1 ?e2 ?_); (case e1 => assumption); (case e2 => rfl); intro _ _)
  | ((with_reducible refine' set_c2 ?e1 ?e2 ?_); (case e1 => assumption); (case e2 => rfl); intro _ _)
  | ((with_reducible refine' set_c3 ?e1 ?e2 ?_); (case e1 => assumption); (case e2 => rfl); intro _ _)
  | with_reducible refine iteT ?_
  | with_reducible refine iteF ?_
  | ((with_reducible refine' if_yes ?e1 ?_); (case e1 => omega))
  | ((with_reducible refine' if_no ?e1 ?_); (case e1 => omega))
  | ((with_reducible refine' if_yesN ?e1 ?_); (case e1 => omega))
  | ((with_reducible refine' if_noN ?e1 ?_); (case e1 => omega))
  | ((with_reducible refine' RIx.t ?e1 ?e2 ?_); (case e1 => walk_at "hp"); (case e2 => rfl))
  | with_reducible refine se_andV ?_
  | with_reducible refine se_orV ?_
  | with_reducible refine se_notV ?_
  | with_reducible refine se_chain ?_
  | with_reducible refine se_sl ?_
  | with_reducible refine so_none ?_
  | with_reducible refine so_some ?_
  | with_reducible refine so_int ?_
  | with_reducible refine se_m1 ?_
  | with_reducible refine se_m0 ?_
  | with_reducible refine m_str ?_
  | with_reducible refine se_mkE ?_
  | ((with_reducible refine' mkE_now ?e1 ?_); (case e1 => assumption); intro _ _ _ _ _ _ _ _)
  | with_reducible refine st_raiseX ?_
  | ((with_reducible refine' mkX_now ?e1 ?_); (case e1 => assumption); intro _ _ _ _ _ _)
  | with_reducible refine st_par ?_
  | with_reducible refine par_mk ?_
  | ((with_reducible refine' st_aug ?e1 ?_); (case e1 => rfl))
  | ((with_reducible refine' RIsi.ty ?e1 ?e2 ?_); (case e1 => walk_at "kn"); (case e2 => decide))
  | with_reducible refine ris_non ?_
  | with_reducible refine ris_nonN ?_
  | with_reducible refine ris_bl ?_
  | with_reducible refine ris_blN ?_
  | with_reducible refine rin_sign ?_
  | with_reducible refine rni_sign ?_
  | ((with_reducible refine' RLen.str ?e1 ?_); (case e1 => first | exact small_ok (by omega) | exact small_ok (Nat.le_of_ble_eq_true rfl)))
  | ((with_reducible refine' RLen.lst ?e1 ?_); (case e1 => walk_at "hp"))
  | ((with_reducible refine' RLen.frz ?e1 ?_); (case e1 => walk_at "hp"))
  | ((with_reducible refine' RLen.tup ?e1 ?_); (case e1 => walk_at "hp"))
  | (with_reducible refine RMx.mk ?_; intro _ _ _ _)
  | (with_reducible refine RMn.mk ?_; intro _ _ _ _)
  | with_reducible refine RStarts.mk ?_
  | with_reducible refine RFind.mk ?_
  | with_reducible refine RInt.bl ?_
  | ((with_reducible refine' RAll.mk ?e1 ?_); (case e1 => walk_at "hp")))
local macro_rules | `(tactic| walk_at "sx") => `(tactic| repeat (walk_at "s1"; try dsimp only [List.set, Int.reduceToNat]))
local macro_rules | `(tactic| walk_at "go") => `(tactic| (dsimp only [cxOf, L2.start, List.map, List.length, List.replicate, Nat.reduceAdd, Nat.reduceSub, List.replicate, HAppend.hAppend, Append.append, List.append]; walk_at "sx"))
local macro_rules | `(tactic| walk_at "sxm") => `(tactic| repeat (first | ((with_reducible refine' mod_let ?e1 ?_); (case e1 => omega); intro _ _ _) | walk_at "s1"; try dsimp only [List.set, Int.reduceToNat]))
local macro_rules | `(tactic| walk_at "go0") => `(tactic| dsimp only [cxOf, L2.start, List.map, List.length, List.replicate, Nat.reduceAdd, Nat.reduceSub, List.replicate, HAppend.hAppend, Append.append, List.append])

/-- the three numbers of a box, drawn at most n times -/
structure BoxOk (n : Nat) (x y z : Int) : Prop where
  x0 : 0 ≤ x
  y0 : 0 ≤ y
  y1 : y < 2147483629
  z0 : 0 ≤ z
  z1 : z ≤ n
abbrev bx (x y z : Int) : HO := .lst [.int x, .int y, .int z]
/-- a draw: below many, the box drawn once more -/
def spTake : Sp := fun vs H Q _ => ∃ (b : Addr) (m : Int) (R : List (Addr × HO)) (D : Hp) (x y z : Int) (n : Nat), vs = [.ref b, .int m] ∧ 0 < m ∧ m < 2 ^ 100 ∧ HI H ((b, bx x y z) :: R) D ∧ BoxOk n x y z ∧ n < 1000000 ∧
  ∀ r x' y' z' H', HI H' ((b, bx x' y' z') :: R) D → BoxOk (n + 1) x' y' z' → 0 ≤ r → r < m → Q (.int r) H'
theorem take_now {b : Addr} {m : Int} {R : List (Addr × HO)} {D H : Hp} {x y z : Int} {n : Nat} {Q : VK} {E : XK} (hi : HI H ((b, bx x y z) :: R) D) (m0 : 0 < m) (m1 : m < 2 ^ 100) (hb : BoxOk n x y z) (hn : n < 1000000)
    (k : ∀ r x' y' z' H', HI H' ((b, bx x' y' z') :: R) D → BoxOk (n + 1) x' y' z' → 0 ≤ r → r < m → Q (.int r) H') : spTake ([V.ref b, V.int m] ++ []) H Q E := ⟨b, m, R, D, x, y, z, n, rfl, m0, m1, hi, hb, hn, k⟩
set_option maxHeartbeats 400000 in
theorem ok_l_take {P : Program} {w : World} {K : PySem.W.Frag} {mg : Str → Option Value} {base : Heap} (T : Tx K mg) : FnG P w K mg base 1 (a_l_take K) ["box", "many"] spTake := by
  refine T.f_l_take.ok sc_l_take (fun vs H Q E h => ?_) (fun cdv A outer s H vs Q E hgu hr h => ⟨_, (pss_cons (ps_if (pt_cmpR op_gt (pe_ix ix_U (pv 0) pe_int (fun _ _ => rfl)) pe_int (nomark _)) (pss_cons (ps_set (i := 2) sc_l_take.nd rfl (Or.inl rfl) (pe_op op_mod (pe_ix ix_U (pv 0) pe_int (fun _ _ => rfl)) (pv 1)))
 (pss_cons (ps_asg (pe_op op_fdivW (pe_ix ix_U (pv 0) pe_int (fun _ _ => rfl)) (pv 1)) (pg_sub (pv 0) pe_int set_list))
 (pss_one (ps_ret (pv 2))))) pss_nil)
 (pss_cons (ps_asg (pe_op op_addU (pe_ix ix_U (pv 0) pe_int (fun _ _ => rfl)) pe_int) (pg_sub (pv 0) pe_int set_list))
 (pss_cons (ps_set (i := 3) sc_l_take.nd rfl (Or.inl rfl) (pe_op op_mod (pe_op op_pow (pe_op op_addU (pe_op op_addU (pe_ix ix_U (pv 0) pe_int (fun _ _ => rfl)) (pe_op op_mulU pe_int (pe_ix ix_U (pv 0) pe_int (fun _ _ => rfl)))) pe_int) pe_int) pe_int))
 (pss_cons (ps_set (i := 4) sc_l_take.nd rfl (Or.inl rfl) (pe_op op_mod (pe_op op_pow (pe_op op_addU (pe_op op_addU (pe_op op_fdivW (pv 3) pe_int) (pe_op op_mulU (pe_op op_mulU pe_int (pe_ix ix_U (pv 0) pe_int (fun _ _ => rfl))) (pe_ix ix_U (pv 0) pe_int (fun _ _ => rfl)))) pe_int) pe_int) pe_int))
 (pss_one (ps_ret (pe_op op_mod (pe_op op_addU (pe_op op_fdivW (pv 3) pe_int) (pe_op op_mulU pe_int (pe_op op_fdivW (pv 4) pe_int))) (pv 1)))))))), ?_⟩)
  · obtain ⟨b, m, R, D, x, y, z, n, rfl, _⟩ := h
    rfl
  · obtain ⟨b, m, R, D, x, y, z, n, rfl, m0, m1, hi, hb, hn, k⟩ := h
    obtain ⟨x0, y0, y1, z0, z1⟩ := hb
    walk_at "go"
    refine if_dec (fun h => ?_) (fun h => ?_)
    · walk_at "sx"
      exact k _ _ _ _ _ (by assumption) ⟨Int.ediv_nonneg x0 (by omega), y0, y1, z0, by omega⟩ (Int.emod_nonneg _ (by omega)) (Int.emod_lt_of_pos _ m0)
    · walk_at "sxm"
      refine ri_mk ⟨by decide, by decide, pow_ok (by omega) (by omega) (by omega) (by omega) (by omega) (by omega) (by omega) (by omega)⟩ ?_
      walk_at "sxm"
      exact k _ _ _ _ _ (by assumption) ⟨x0, y0, y1, by omega, by omega⟩ (by assumption) (by assumption)
theorem take_more {α : Type} : ∀ {l : List α} {i : Nat} {x : α}, l[i]? = some x → l.take (i + 1) = l.take i ++ [x]
  | [], i, x, h => by simp at h
  | a :: l, 0, x, h => by
    have e : a = x := Option.some.inj h
    subst e
    rfl
  | a :: l, i + 1, x, h => by
    have ih := take_more (l := l) (i := i) (x := x) h
    show a :: l.take (i + 1) = a :: l.take i ++ [x]
    rw [ih]
    rfl
theorem cps_get {z : Str} {i c : Nat} (h : z.cps[i]? = some c) : z.cps.toList[i]? = some c := by
  rw [← h]
  simp
theorem cps_len {z : Str} : z.cps.toList.length = z.length := rfl
theorem cps_size {z : Str} : z.cps.size = z.length := rfl
def spCell : Sp := fun vs H Q _ => ∃ (l : Addr) (o : Obj) (k : Int) (ns : List Int) (R : Cells) (D : Hp), vs = [.ref l, .int k] ∧ HI H R D ∧ D l = some (.frz o (.lst (ns.map V.int))) ∧ 0 ≤ k ∧ k < 1000 ∧ ∀ c H', HI H' R D → Q (.int c) H'
def spBox : Sp := fun vs H Q _ => ∃ (c : Int) (R : Cells) (D : Hp), vs = [.int c] ∧ HI H R D ∧ ∀ b x y H', HI H' ((b, bx x y 0) :: R) D → BoxOk 0 x y 0 → Q (.ref b) H'
set_option maxHeartbeats 400000 in
theorem ok_l_cell {P : Program} {w : World} {K : PySem.W.Frag} {mg : Str → Option Value} {base : Heap} (T : Tx K mg) : FnG P w K mg base 1 (a_l_cell K) ["script", "k"] spCell := by
  refine T.f_l_cell.ok sc_l_cell (fun vs H Q E h => ?_) (fun cdv A outer s H vs Q E hgu hr h => ⟨_, (pss_cons (ps_if (pt_cmpR op_lt (pv 1) (pe_callB (call_lenU) (by rfl) T.n_len boot_len (pa_cons (pv 0) pa_nil)) (nomark _)) (pss_one (ps_ret (pe_ix ix_U (pv 0) (pv 1) (fun _ _ => rfl)))) pss_nil)
 (pss_one (ps_ret (pe_op op_addU (pe_op op_mulU pe_int (pv 1)) pe_int)))), ?_⟩)
  · obtain ⟨l, o, k, ns, R, D, rfl, _⟩ := h
    rfl
  · obtain ⟨l, o, k, ns, R, D, rfl, hi, hl, k0, k1, go⟩ := h
    walk_at "go"
    refine if_dec (fun h => ?_) (fun h => ?_)
    · walk_at "sx"
      rw [List.length_map] at h
      obtain ⟨j, rfl⟩ := Int.eq_ofNat_of_zero_le k0
      have hj : j < ns.length := by omega
      refine RIx.f (by walk_at "hp") (atI_map (List.getElem?_eq_getElem hj)) ?_
      exact go _ _ (by assumption)
    · walk_at "sx"
      exact go _ _ (by assumption)
set_option maxHeartbeats 400000 in
theorem ok_l_box {P : Program} {w : World} {K : PySem.W.Frag} {mg : Str → Option Value} {base : Heap} (T : Tx K mg) : FnG P w K mg base 1 (a_l_box K) ["cell"] spBox := by
  refine T.f_l_box.ok sc_l_box (fun vs H Q E h => ?_) (fun cdv A outer s H vs Q E hgu hr h => ⟨_, (pss_one (ps_ret (pe_lstM (pa_cons (pe_callB (call_maxU rfl) (by rfl) T.n_max boot_max (pa_cons pe_int (pa_cons (pe_op op_sub (pv 0) (pe_op op_pow pe_int pe_int)) pa_nil))) (pa_cons (pe_op op_mod (pv 0) pe_int) (pa_cons pe_int pa_nil)))))), ?_⟩)
  · obtain ⟨c, R, D, rfl, _⟩ := h
    rfl
  · obtain ⟨c, R, D, rfl, hi, go⟩ := h
    walk_at "go"
    walk_at "sxm"
    exact go _ _ _ _ (by assumption) ⟨by omega, by omega, by omega, by omega, by omega⟩
theorem cell_now {l : Addr} {o : Obj} {k : Int} {ns : List Int} {R : Cells} {D H : Hp} {Q : VK} {E : XK} (hi : HI H R D) (hl : D l = some (.frz o (.lst (ns.map V.int)))) (k0 : 0 ≤ k) (k1 : k < 1000) (q : ∀ c H', HI H' R D → Q (.int c) H') : spCell ([V.ref l, V.int k] ++ []) H Q E := ⟨l, o, k, ns, R, D, rfl, hi, hl, k0, k1, q⟩
theorem box_now {c : Int} {R : Cells} {D H : Hp} {Q : VK} {E : XK} (hi : HI H R D) (q : ∀ b x y H', HI H' ((b, bx x y 0) :: R) D → BoxOk 0 x y 0 → Q (.ref b) H') : spBox ([V.int c] ++ []) H Q E := ⟨c, R, D, rfl, hi, q⟩
end Wk

set_option maxRecDepth 100000
set_option maxHeartbeats 4000000
/-! Lists of own objects compared by identity; o[i] op= e; all list cells frozen. -/
namespace Wk
open PySem PySem.Spec PyProof.Rows L2
/-- a value that is equal to itself by a look -/
def Sf (v : V) : Prop := flatB v = true ∨ ∃ a, v = .ref a
theorem Sf.ref (a : Addr) : Sf (.ref a) := .inr ⟨a, rfl⟩
theorem sf_at {A : Around} {s : Shared} {v : V} {u w : Value} (h : Sf v) (r : RelV v u) (r2 : RelV v w) : SeqAt.EqAt A s u w true := by
  rcases h with h | ⟨a, rfl⟩
  · exact eqAt_same r r2 h
  · cases (show u = Value.ref a from r)
    cases (show w = Value.ref a from r2)
    exact SeqAt.EqAt.same _
theorem sf_items {A : Around} {s : Shared} {xs : List V} (h : ∀ v ∈ xs, Sf v) : ∀ {us ws : List Value}, Vals xs us → Vals xs ws → ∀ j (h1 : j < us.length) (h2 : j < ws.length), SeqAt.EqAt A s us[j] ws[j] true := by
  induction xs with
  | nil =>
    intro us ws r1 r2 j h1 h2
    cases r1
    exact absurd h1 (Nat.not_lt_zero j)
  | cons x r ih =>
    intro us ws r1 r2 j h1 h2
    cases r1 with
    | cons a1 b1 =>
      cases r2 with
      | cons a2 b2 =>
        cases j with
        | zero => exact sf_at (h x (List.mem_cons_self ..)) a1 a2
        | succ j => exact ih (fun v hv => h v (List.mem_cons_of_mem _ hv)) b1 b2 j (Nat.lt_of_succ_lt_succ h1) (Nat.lt_of_succ_lt_succ h2)
inductive REqI (neg : Bool) : V → V → Hp → VK → Prop
  | b {x y : V} {H : Hp} {Q : VK} : REq neg x y H Q → REqI neg x y H Q
  | same {p q : Addr} {xs : List V} {H : Hp} {Q : VK} : H p = some (.lst xs) → H q = some (.lst xs) → (∀ v ∈ xs, Sf v) → Q (.bl (!neg)) H → REqI neg (.ref p) (.ref q) H Q
  | len {p q : Addr} {xs ys : List V} {H : Hp} {Q : VK} : H p = some (.lst xs) → H q = some (.lst ys) → xs.length ≠ ys.length → Q (.bl neg) H → REqI neg (.ref p) (.ref q) H Q
section
variable {X : Cx}
theorem op_eqI (hu : X.A.units + 64 < cLine) : OpR X (compareOp .Eq) (REqI false) := by
  intro pins s σ H x y v u Q I rx ry h
  have hu0 : X.A.units < cLine := by omega
  cases h with
  | b q => exact op_eqU hu pins s σ H _ _ v u Q I rx ry q
  | @same p q xs _ _ h1 h2 hs q =>
    obtain rfl : v = Value.ref p := rx
    obtain rfl : u = Value.ref _ := ry
    obtain ⟨us, r1, p1, _⟩ := I.list (SqL.of h1)
    obtain ⟨ws, r2, p2, _⟩ := I.list (SqL.of h2)
    have hsz : us.toArray.size = ws.toArray.size := by
      rw [List.size_toArray, List.size_toArray, ← r1.length, ← r2.length]
    refine SeqAt.RcAt.lists (e := fun _ => true) p1.isList p2.isList hsz hu0 (fun j h1 h2 => ?_) X.prog X.w _ _ ?_
    · have k := sf_items (A := X.A.in1) (s := s) hs r1 r2 j (by simpa using h1) (by simpa using h2)
      simpa using k
    · rw [show ((List.range us.toArray.size).all fun _ => true) = true from List.all_eq_true.mpr fun _ _ => rfl]
      exact ⟨.bl true, H, I, rfl, q⟩
  | @len p q xs ys _ _ h1 h2 hn q =>
    obtain rfl : v = Value.ref p := rx
    obtain rfl : u = Value.ref _ := ry
    obtain ⟨us, r1, p1, _⟩ := I.list (SqL.of h1)
    obtain ⟨ws, r2, p2, _⟩ := I.list (SqL.of h2)
    refine SeqAt.RcAt.lists_lengths p1.isList p2.isList (by
      rw [List.size_toArray, List.size_toArray, ← r1.length, ← r2.length]
      exact bne_iff_ne.mpr hn) hu0 X.prog X.w _ _ ⟨.bl false, H, I, rfl, q⟩
theorem op_neI (hu : X.A.units + 64 < cLine) : OpR X (compareOp .NotEq) (REqI true) := by
  intro pins s σ H x y v u Q I rx ry h
  have hu0 : X.A.units < cLine := by omega
  cases h with
  | b q => exact op_neU hu pins s σ H _ _ v u Q I rx ry q
  | @same p q xs _ _ h1 h2 hs q =>
    obtain rfl : v = Value.ref p := rx
    obtain rfl : u = Value.ref _ := ry
    obtain ⟨us, r1, p1, _⟩ := I.list (SqL.of h1)
    obtain ⟨ws, r2, p2, _⟩ := I.list (SqL.of h2)
    have hsz : us.toArray.size = ws.toArray.size := by
      rw [List.size_toArray, List.size_toArray, ← r1.length, ← r2.length]
    refine SeqAt.RcNeAt.lists (e := fun _ => true) p1.isList p2.isList hsz hu0 (fun j h1 h2 => ?_) X.prog X.w _ _ ?_
    · have k := sf_items (A := X.A.in1) (s := s) hs r1 r2 j (by simpa using h1) (by simpa using h2)
      simpa using k
    · rw [show ((List.range us.toArray.size).all fun _ => true) = true from List.all_eq_true.mpr fun _ _ => rfl]
      exact ⟨.bl false, H, I, rfl, q⟩
  | @len p q xs ys _ _ h1 h2 hn q =>
    obtain rfl : v = Value.ref p := rx
    obtain rfl : u = Value.ref _ := ry
    obtain ⟨us, r1, p1, _⟩ := I.list (SqL.of h1)
    obtain ⟨ws, r2, p2, _⟩ := I.list (SqL.of h2)
    refine SeqAt.RcNeAt.lists_lengths p1.isList p2.isList (by
      rw [List.size_toArray, List.size_toArray, ← r1.length, ← r2.length]
      exact bne_iff_ne.mpr hn) hu0 X.prog X.w _ _ ⟨.bl true, H, I, rfl, q⟩
end
theorem paired_get {α β : Type} {r : α → β → Prop} : ∀ {xs : List α} {ys : List β} {i : Nat} {x : α}, Paired r xs ys → xs[i]? = some x → ∃ y, ys[i]? = some y ∧ r x y
  | _, _, _, _, .nil, e => by simp at e
  | _, _, 0, _, .cons h _, e => by
    simp at e
    subst e
    exact ⟨_, rfl, h⟩
  | _, _, i + 1, _, .cons _ l, e => by
    obtain ⟨y, a, b⟩ := paired_get (i := i) l (by simpa using e)
    exact ⟨y, by simpa using a, b⟩
theorem paired_get2 {α β : Type} {r : α → β → Prop} : ∀ {xs : List α} {ys : List β} {i : Nat} {y : β}, Paired r xs ys → ys[i]? = some y → ∃ x, xs[i]? = some x ∧ r x y
  | _, _, _, _, .nil, e => by simp at e
  | _, _, 0, _, .cons h _, e => by
    simp at e
    subst e
    exact ⟨_, rfl, h⟩
  | _, _, i + 1, _, .cons _ l, e => by
    obtain ⟨y, a, b⟩ := paired_get2 (i := i) l (by simpa using e)
    exact ⟨y, by simpa using a, b⟩
theorem fil_one {α : Type} {P : α → Bool} {a : α} : [a].filter P = if P a = true then [a] else [] := by
  by_cases h : P a = true
  · rw [if_pos h, List.filter_cons_of_pos h, List.filter_nil]
  · rw [if_neg h, List.filter_cons_of_neg h, List.filter_nil]
/-! ### o[i] op= e -/
inductive RGetL : V → V → Hp → VK → Prop
  | l {p : Addr} {xs : List V} {i : Int} {v : V} {H : Hp} {Q : VK} : H p = some (.lst xs) → 0 ≤ i → xs[i.toNat]? = some v → Q v H → RGetL (.ref p) (.int i) H Q
theorem get_list {X : Cx} : PGet X RGetL := by
  intro pins s σ H o i ov iv Q I ro ri h
  cases h with
  | @l p xs i v _ _ e h0 hi q =>
    obtain rfl : ov = Value.ref p := ro
    obtain ⟨t, rfl⟩ := ri
    obtain ⟨its, r, pl, hz⟩ := I.list (SqL.of e)
    obtain ⟨w, ew, rw'⟩ := r.get hi
    have hl := r.length
    have hn := line63
    have hi2 := (List.getElem?_eq_some_iff.mp hi).1
    exact wpAny_getItem_list pl.isList h0 (by omega) (by simpa using ew) ⟨v, H, I, rw', q⟩
theorem st_augS {to ti te : TE} {tget : V → V → Hp → VK → Prop} {tip : TIp} {tset : TSet} {D : Ends} {σ : L2.St} {H : Hp} (h : to σ H fun o H1 => ti σ H1 fun i H2 => tget o i H2 fun x H3 => te σ H3 fun y H4 => tip x y H4 fun z H5 => tset o i z H5 fun H6 => D.nx σ H6) : tAugS to ti te tget tip tset D σ H := h
section
variable {K : PySem.W.Frag} {g : TG} {tb : TS} {D : Ends} {σ : L2.St} {H D0 : Hp} {R0 Rs : Cells} {tt : TT} {te : TE} {vs : List Nat} {Q : VK} {a : Addr} {xs : List V}
/-- a walk over a list or a tuple that stands in Rs, while other cells change -/
theorem for_seqR (s : Sq3 Rs D0 a xs) (hR : ∀ q ∈ Rs, q ∈ R0) (I : Nat → L2.St → Cells → Hp → Prop) (hi : HI H R0 D0) (h0 : I 0 σ R0 D0) (hl : ∀ i σ R Dd, I i σ R Dd → (∀ q ∈ Rs, q ∈ R) ∧ Ex D0 Dd)
    (hs : ∀ (i : Nat) x σ R Dd H, xs[i]? = some x → HI H R Dd → I i σ R Dd → g x σ H fun σ2 H2 => tb { D with nx := NX I (i + 1), ct := NX I (i + 1), bk := D.nx } σ2 H2) (hd : ∀ σ R Dd H, HI H R Dd → I xs.length σ R Dd → D.nx σ H) :
    (∃ b, V.ref a = .ref b ∧ (∃ xs, SqL K H b xs) ∧ ForK (Itl K b) g tb D σ H) ∨ ∃ b, V.ref a = .ref b ∧ (∃ xs, SqT K H b xs) ∧ ForK (Itt K b) g tb D σ H := by
  cases s with
  | l e => exact .inl ⟨a, rfl, ⟨xs, SqL.of (hi.dat e)⟩, for_lst I hi h0 (fun i σ R Dd p => (hl i σ R Dd p).2 _ _ e) hs hd⟩
  | t e => exact .inr ⟨a, rfl, ⟨xs, SqT.of (hi.dat e)⟩, for_tup I hi h0 (fun i σ R Dd p => (hl i σ R Dd p).2 _ _ e) hs hd⟩
  | c m => exact .inl ⟨a, rfl, ⟨xs, SqL.of (hi.get (hR _ m))⟩, for_hi walk_list I hi h0 (fun i σ R Dd H _ q p => SqL.of (q.get ((hl i σ R Dd p).1 _ m))) (fun i x σ R Dd H H' hn a b y => by
      obtain ⟨rfl, y⟩ := y
      exact hs i x σ R Dd H' y a b) hd⟩
end
section
variable {K : PySem.W.Frag} {g : TG} {tb : TS} {D : Ends} {σ : L2.St} {H D0 : Hp} {R0 : Cells} {tt : TT} {te : TE} {vs : List Nat} {Q : VK} {a : Addr} {xs : List V}
/-- a walk over a list that is a cell and stays so -/
theorem lc_cell (I : Nat → List V → Cells → Hp → Prop) (hi : HI H R0 D0) (h0 : I 0 [] R0 D0) (hl : ∀ i acc R Dd, I i acc R Dd → ((a, HO.lst xs) : Addr × HO) ∈ R)
    (hs : ∀ L i acc x R Dd H, xs[i]? = some x → HI H ((L, .lst acc) :: R) Dd → I i acc R Dd → acc.length ≤ i → g x (wipe σ vs) H fun σ2 H2 => wipe σ2 vs = wipe σ vs ∧ tt σ2 H2 fun b H3 => if b = true then te σ2 H3 (LE L I (i + 1)) else PW' L I (i + 1) H3)
    (hd : ∀ L acc R Dd H, HI H ((L, .lst acc) :: R) Dd → I xs.length acc R Dd → acc.length ≤ xs.length → Q (.ref L) H) : LcK (Itl K a) g tt te vs σ H Q :=
  lc_hi walk_list I hi h0 (fun i acc R Dd H _ q p => SqL.of (q.get (hl i acc R Dd p))) (fun L i acc x R Dd H H' hn a b c y => by
    obtain ⟨rfl, y⟩ := y
    exact hs L i acc x R Dd H' y a b c) hd
theorem for_cell (I : Nat → L2.St → Cells → Hp → Prop) (hi : HI H R0 D0) (h0 : I 0 σ R0 D0) (hl : ∀ i σ R Dd, I i σ R Dd → ((a, HO.lst xs) : Addr × HO) ∈ R)
    (hs : ∀ (i : Nat) x σ R Dd H, xs[i]? = some x → HI H R Dd → I i σ R Dd → g x σ H fun σ2 H2 => tb { D with nx := NX I (i + 1), ct := NX I (i + 1), bk := D.nx } σ2 H2) (hd : ∀ σ R Dd H, HI H R Dd → I xs.length σ R Dd → D.nx σ H) : ForK (Itl K a) g tb D σ H :=
  for_hi walk_list I hi h0 (fun i σ R Dd H _ q p => SqL.of (q.get (hl i σ R Dd p))) (fun i x σ R Dd H H' hn a b y => by
    obtain ⟨rfl, y⟩ := y
    exact hs i x σ R Dd H' y a b) hd
end
/-! ### dicts that may be shown -/
theorem sm_kv {n k : Nat} : ∀ {ds : List (PyData × PyData)}, (∀ d ∈ ds, Sm d.1 n k ∧ Sm d.2 n k) → PyData.showableKv ds = true ∧ (((PyData.shownKv ds).map (·.length)).sum ≤ (2 * n + 2) * ds.length ∧ (PyData.shownKv ds).length = ds.length) ∧ PyData.depthKv ds ≤ k
  | [], _ => ⟨rfl, ⟨Nat.zero_le _, rfl⟩, Nat.zero_le _⟩
  | (x, y) :: ds, h => by
    obtain ⟨a, ⟨b, c⟩, e⟩ := sm_kv (ds := ds) fun z hz => h z (List.mem_cons_of_mem _ hz)
    obtain ⟨⟨a1, b1, e1⟩, ⟨a2, b2, e2⟩⟩ := h (x, y) (List.mem_cons_self ..)
    dsimp only at a1 b1 e1 a2 b2 e2
    refine ⟨?_, ⟨?_, ?_⟩, ?_⟩
    · simp only [PyData.showableKv, a1, a2, a, Bool.and_self]
    · simp only [PyData.shownKv, List.map_cons, List.sum_cons, List.length_cons, Nat.mul_succ]
      rw [len_app, len_app, show (": " : Str).length = 2 from rfl]
      omega
    · simp only [PyData.shownKv, List.length_cons, c]
    · simp only [PyData.depthKv]
      omega
theorem Sm.dict {n k : Nat} {ds : List (PyData × PyData)} (h : ∀ d ∈ ds, Sm d.1 n k ∧ Sm d.2 n k) : Sm (.dict ds) ((2 * n + 2) * ds.length + 2 * ds.length + 3) (k + 1) := by
  obtain ⟨a, ⟨b, c⟩, e⟩ := sm_kv h
  refine ⟨by simpa only [PyData.showable] using a, ?_, by simp only [PyData.depth]; omega⟩
  have jl := PySem.dictText_len_le (PyData.shownKv ds)
  rw [c] at jl
  have e4 : (PyData.dict ds).shown = PySem.dictText (PyData.shownKv ds) := by simp only [PyData.shown]
  rw [e4]
  omega
/-! ### an if whose ends are joined -/
def tIfJ (tt : TT) (t u : TS) : TS := tIfS tt t u
theorem ps_ifJ {X : Cx} {test : Expr} {body orelse : List Stmt} {pos : Pos} {tt : TT} {t u : TS} (ht : PT X test tt) (hb : PSs X body t) (ho : PSs X orelse u) : PS X (.If test body orelse pos) (tIfJ tt t u) := ps_if ht hb ho
theorem st_ifJ {tt : TT} {t u : TS} {D : Ends} {σ : L2.St} {H : Hp} (I : L2.St → Hp → Prop) (tail : ∀ σ' H', I σ' H' → D.nx σ' H') (h : ∀ N : L2.St → Hp → Prop, (∀ σ' H', I σ' H' → N σ' H') → tt σ H fun b H1 => if b = true then t { D with nx := N } σ H1 else u { D with nx := N } σ H1) : tIfJ tt t u D σ H := h D.nx tail
/-- a tuple's parts within a comprehension -/
theorem pg_tupC {X : Cx} {K : PySem.W.Frag} {es : List Expr} {k : Nat} {t : TGs} {n : Nat} {pos : Pos} (hc : X.calm = true) (h : PGs X es t) (hn : (assignEach es X.env).length = n) (hst : (assignEach es X.env).findIdx? (·.1) = none) (hK : X.K = K) : PG X (.Tuple es k pos) (gTup K n t) := by
  subst hK
  exact pg_tup hc h hn hst
theorem cutV_from {xs : List V} {k : Nat} : cutV xs (some (k : Int)) none = xs.drop k := by
  unfold cutV
  rw [show HT.sIx xs.length 0 (some (k : Int)) = min k xs.length from HT.sIx_nat _ _ _, HT.sIx_none, List.take_of_length_le (by rw [List.length_drop]; exact Nat.le_refl _)]
  by_cases h : k ≤ xs.length
  · rw [Nat.min_eq_left h]
  · rw [Nat.min_eq_right (by omega), List.drop_of_length_le (Nat.le_refl _), List.drop_of_length_le (by omega)]
/-! ### xs[::-1] -/
def RvP (K : PySem.W.Frag) (x : V) (H : Hp) (Q : VK) : Prop := ∃ a xs, x = .ref a ∧ SqL K H a xs ∧ AlD (.lst xs.reverse) H Q
theorem se_revL {K : PySem.W.Frag} {te : TE} {σ : L2.St} {H : Hp} {Q : VK} (h : te σ H fun x H1 => RvP K x H1 Q) : tRevL K te σ H Q := h
theorem rv_mk {K : PySem.W.Frag} {H : Hp} {Q : VK} {a : Addr} {xs : List V} (e : H a = some (.lst xs)) (q : AlD (.lst xs.reverse) H Q) : RvP K (.ref a) H Q := ⟨a, xs, rfl, SqL.of e, q⟩
/-! ### all the list cells stand still -/
theorem HI.frAll {H : Hp} : ∀ {LC : LCs} {R : Cells} {D : Hp}, HI H (lcs LC ++ R) D → ∃ D', HI H R D' ∧ Ex D D' ∧ ∀ c ∈ LC, D' c.1 = some (.lst c.2)
  | [], R, D, h => ⟨D, h, Ex.refl _, fun c hc => nomatch hc⟩
  | c :: LC, R, D, h => by
    have h' : HI H ((c.1, HO.lst c.2) :: (lcs LC ++ R)) D := h
    obtain ⟨D1, h1, x1, e1⟩ := h'.fr1
    obtain ⟨D2, h2, x2, e2⟩ := HI.frAll h1
    exact ⟨D2, h2, x1.trans x2, fun d hd => by
      rcases List.mem_cons.mp hd with rfl | hd
      · exact x2 _ _ e1
      · exact e2 d hd⟩
end Wk

set_option maxRecDepth 100000
set_option maxHeartbeats 4000000
/-! A built-in thing == an own instance: the own __eq__ is asked. -/
namespace Wk
open PySem PySem.Spec PyProof.Rows L2
open PySem.W PySem.Calls
/-- x is no T -/
abbrev NoI (prog : Program) (w : World) (T : String) (x : Addr) (s : Shared) : Prop := ∀ (A : Around) (E : Value → Shared → Prop) (Q : Bool → Shared → Prop), Q false s → wpAny (model prog w) A (isInstance (.ref x) (.type T)) Q E s
theorem list_back {prog : Program} {w : World} (l x : Addr) (items : Array Value) (n : Nat) :
    MeetsIn prog w (Builtin.«list.__eq__» ⟨[.ref l, .ref x], []⟩) (fun _ R s => s.heap.get? l = some { cls := .type "list", data := .seq items n } ∧ NoI prog w "list" x s ∧ R (.ok (.ret .notImplemented)) s) := fun A R s h => by
  obtain ⟨hl, hn, h⟩ := h
  have hn' := hn A.in1 (fun e s' => R (.error e) s')
  obtain ⟨hp, g, d, tk, os⟩ := s
  wp_walk using wpAny_loadPart' hl, hn'
  exact h
theorem tuple_back {prog : Program} {w : World} (l x : Addr) (items : Array Value) (n : Nat) (dd : Option Addr) (sl : Array (Option Value)) :
    MeetsIn prog w (Builtin.«tuple.__eq__» ⟨[.ref l, .ref x], []⟩) (fun _ R s => s.heap.get? l = some { cls := .type "tuple", dict := dd, data := .seq items n, slots := sl } ∧ NoI prog w "tuple" x s ∧ R (.ok (.ret .notImplemented)) s) := fun A R s h => by
  obtain ⟨hl, hn, h⟩ := h
  have hn' := hn A.in1 (fun e s' => R (.error e) s')
  obtain ⟨hp, g, d, tk, os⟩ := s
  wp_walk using wpAny_loadPart' hl, hn'
  exact h
theorem dict_back {prog : Program} {w : World} (l x : Addr) (o : Obj) :
    MeetsIn prog w (Builtin.«dict.__eq__» ⟨[.ref l, .ref x], []⟩) (fun _ R s => s.heap.get? l = some o ∧ NoI prog w "dict" x s ∧ R (.ok (.ret .notImplemented)) s) := fun A R s h => by
  obtain ⟨hl, hn, h⟩ := h
  have hn' := hn A.in1 (fun e s' => R (.error e) s')
  obtain ⟨hp, g, d, tk, os⟩ := s
  wp_walk using wpAny_loadPart' hl, hn'
  exact h
theorem str_back {prog : Program} {w : World} (z : Str) (t : Tok) (x C dx : Addr) :
    MeetsIn prog w (Builtin.«str.__eq__» ⟨[.str z t, .ref x], []⟩) (fun _ R s => s.heap.get? x = some (instObj C dx) ∧ R (.ok (.ret .notImplemented)) s) := fun A R s h => by
  obtain ⟨hx, h⟩ := h
  obtain ⟨hp, g, d, tk, os⟩ := s
  wp_walk using wpAny_load hx
  exact h
theorem int_back {prog : Program} {w : World} (z : Int) (t : Tok) (x C dx : Addr) :
    MeetsIn prog w (Builtin.«int.__eq__» ⟨[.int z t, .ref x], []⟩) (fun _ R s => s.heap.get? x = some (instObj C dx) ∧ R (.ok (.ret .notImplemented)) s) := fun A R s h => by
  obtain ⟨hx, h⟩ := h
  obtain ⟨hp, g, d, tk, os⟩ := s
  wp_walk using wpAny_load hx
  exact h
theorem bool_back {prog : Program} {w : World} (z : Bool) (x C dx : Addr) :
    MeetsIn prog w (Builtin.«int.__eq__» ⟨[.bool z, .ref x], []⟩) (fun _ R s => s.heap.get? x = some (instObj C dx) ∧ R (.ok (.ret .notImplemented)) s) := fun A R s h => by
  obtain ⟨hx, h⟩ := h
  obtain ⟨hp, g, d, tk, os⟩ := s
  wp_walk using wpAny_load hx
  exact h
/-- a thing of the kit's type Ta == the instance at x: Ta's own answer is none, so x's class is asked -/
theorem cmp_back {prog : Program} {w : World} {A : Around} {E : Value → Shared → Prop} {s : Shared} {K : Frag} {x C f : Addr} {ox od : Obj} {a : Value} {Ta ida : String} {Q : Value → Shared → Prop} (hu : A.units < cLine) (X : K.In s.heap) (I : InstAt s.heap x ox C (some od)) (ta : s.TypeIs a Ta)
    (hsub : subIn K (.ref C) (.type Ta) = some false) (h1 : Slot Ta (cmpInfo .Eq).2.1 ida) (hc1 : ∀ Q' : Value → Shared → Prop, Q' .notImplemented s → wpAny (model prog w) A (call (.builtin ida) [a, .ref x]) Q' E s)
    (hs : findIn K (.ref C) "__eq__" = some (some (.ref f))) (hf : isFn K (.ref f) = true) (h : wpAny (model prog w) A (call (.ref f) [.ref x, a]) (PySem.W.CmpBack Q) E s) : wpAny (model prog w) A (richCompare .Eq a (.ref x)) Q E s := by
  have back : wpAny (model prog w) A (tryCompare (.ref x) "__eq__" a) (fun r s' => ∃ v, r = some v ∧ Q v s') E s := by
    unfold tryCompare
    refine wpAny_bind (ifBound_K X I hs hf (wpAny_mono h (fun v s' hv => ?_) fun _ _ e => e))
    cases v <;> first | exact hv.elim | exact wpAny_pure ⟨_, rfl, hv⟩
  unfold richCompare
  rw [ta.oneThing_none]
  refine wpAny_holding (wpAny_bind (wpAny_cRoomFor hu ?_))
  refine wpAny_bind (wpAny_typeOf ta (wpAny_bind (I.type.here ?_)))
  have hne : (Value.type Ta != Value.ref C) = true := rfl
  simp only [hne, if_true]
  refine wpAny_bind ((looks_subIn X hsub).here ?_)
  simp only [Bool.false_eq_true, if_false, Bool.not_false, if_true]
  refine wpAny_bind (m := tryCompare a _ _) (wpAny_tryCompare_declines ta h1 (hc1 _ ⟨rfl, ?_⟩))
  refine wpAny_bind (wpAny_mono back (fun r s' z => ?_) fun _ _ e => e)
  obtain ⟨v, rfl, hq⟩ := z
  exact wpAny_pure hq
/-- a plain thing -/
inductive Pl (H : Hp) : V → Prop
  | non : Pl H .non
  | bl (b : Bool) : Pl H (.bl b)
  | int (i : Int) : Pl H (.int i)
  | str (z : Str) : Pl H (.str z)
  | lst {p : Addr} {xs : List V} (e : H p = some (.lst xs)) : Pl H (.ref p)
  | tup {p : Addr} {xs : List V} (e : H p = some (.tup xs)) : Pl H (.ref p)
  | dict {p : Addr} {kvs : List (Key × V)} (e : H p = some (.dK kvs)) : Pl H (.ref p)
/-- == where an instance of C stands on the left, or on the right of a plain thing -/
inductive REqK (K : PySem.W.Frag) (C : Addr) (sp : Sp) : V → V → Hp → VK → Prop
  | l {x y : V} {H : Hp} {Q : VK} : REqO K C sp false x y H Q → REqK K C sp x y H Q
  | r {a dx : Addr} {fs : List (Str × V)} {x : V} {H : Hp} {Q : VK} : H a = some (.ins C dx fs) → Pl H x → sp [.ref a, x] H (fun v H' => ∃ c, v = .bl c ∧ Q (.bl c) H') (fun _ _ _ => False) → REqK K C sp x (.ref a) H Q
/-- the instance is asked back -/
theorem back_at {X : Cx} {k : Nat} {f C : Addr} {sp : Sp} {ps : List Str} {A : Around} {pins : List (Addr × Obj)} {s : Shared} {σ : L2.St} {H : Hp} {x : V} {v : Value} {a dx : Addr} {fs : List (Str × V)} {P : Bool → Hp → Prop} (E : EqC X.K C f) (Fn : FnG X.prog X.w X.K X.mg X.base k f ps sp) (hb : Binds X.K (fdOf X.K f) ps []) (hgu : A.guards = some []) (hfr : A.frames = X.A.frames) (hr : Room (k + 1) A)
    (hsb : ∀ n ∈ seven, PySem.W.subIn X.K (.ref C) (.type n) = some false) (I : Inv X pins σ H s) (rx : RelV x v) (e : H a = some (.ins C dx fs)) (pl : Pl H x) (q : sp [.ref a, x] H (fun v H' => ∃ c, v = .bl c ∧ P c H') (fun _ _ _ => False)) :
    wpAny (model X.prog X.w) A (richCompare .Eq v (.ref a)) (fun u s' => ∃ c, u = .bool c ∧ ∃ H', Inv X pins σ H' s' ∧ P c H') X.xe s := by
  obtain ⟨mA, O, _⟩ := ins_get I.hok e
  obtain ⟨od, J, _⟩ := O.look
  have KX := I.kIn
  have fin : wpAny (model X.prog X.w) A (call (.ref f) [.ref a, v]) (PySem.W.CmpBack (fun u s' => ∃ c, u = .bool c ∧ ∃ H', Inv X pins σ H' s' ∧ P c H')) X.xe s := by
    refine wpAny_mono (run_at Fn hgu hfr (hr.mono (Nat.le_succ _)) hb I (.cons (show L2.RelV (.ref a) (.ref a) from rfl) (.cons rx .nil)) q) (fun u' s' hu => ?_) fun _ _ z => z
    obtain ⟨w', H', I', rw', c, rfl, q'⟩ := hu
    obtain rfl : u' = Value.bool c := rw'
    exact ⟨c, rfl, H', I', q'⟩
  have noi : ∀ n ∈ seven, NoI X.prog X.w n a s := fun n hn A E Q q => by
    have L : PySem.W.Looks (model X.prog X.w) s.heap (isSubtype (.ref C) (.type n)) false := PySem.W.looks_subIn KX (hsb n hn)
    have L2 : PySem.W.Looks (model X.prog X.w) s.heap (isInstance (.ref a) (.type n)) false := J.type.andThen L
    exact L2.here q
  have hu := hr.units0
  cases pl with
  | non =>
    cases rx
    exact cmp_back hu KX J (Ta := "NoneType") rfl (hsb _ (by decide +kernel)) PySem.F.slot_NoneType_eq (fun Q' q' => PySem.call_gives PySem.F.slot_NoneType_eq rfl PySem.F.entry_NoneType_eq (PySem.F.args_NoneType_eq_2 _ _) (SeqAt.NoneType___eq___none_ref_0 a) q') E.eq E.fn fin
  | bl b =>
    cases rx
    exact cmp_back hu KX J (Ta := "bool") rfl (hsb _ (by decide +kernel)) PySem.F.slot_bool_eq (fun Q' q' => call_meetsIn PySem.F.slot_bool_eq rfl PySem.F.entry_int_eq (PySem.F.args_int_eq_2 _ _) (bool_back b a C dx) ⟨O.obj, q'⟩) E.eq E.fn fin
  | int i =>
    obtain ⟨t, rfl⟩ := rx
    exact cmp_back hu KX J (typeIs_int s i t) (hsb _ (by decide +kernel)) PySem.F.slot_int_eq (fun Q' q' => call_meetsIn PySem.F.slot_int_eq (typeIs_int s i t) PySem.F.entry_int_eq (PySem.F.args_int_eq_2 _ _) (int_back i t a C dx) ⟨O.obj, q'⟩) E.eq E.fn fin
  | str z =>
    obtain ⟨t, rfl⟩ := rx
    exact cmp_back hu KX J (typeIs_str s z t) (hsb _ (by decide +kernel)) PySem.F.slot_str_eq (fun Q' q' => call_meetsIn PySem.F.slot_str_eq (typeIs_str s z t) PySem.F.entry_str_eq (PySem.F.args_str_eq_2 _ _) (str_back z t a C dx) ⟨O.obj, q'⟩) E.eq E.fn fin
  | @lst p xs ep =>
    obtain rfl : v = Value.ref p := rx
    obtain ⟨its, n, r, ho, hz⟩ := I.lst ep
    exact cmp_back hu KX J ⟨_, ho, rfl⟩ (hsb _ (by decide +kernel)) PySem.F.slot_list_eq (fun Q' q' => call_meetsIn PySem.F.slot_list_eq ⟨_, ho, rfl⟩ PySem.F.entry_list_eq (PySem.F.args_list_eq_2 _ _) (list_back p a its.toArray n) ⟨ho, noi _ (by decide +kernel), q'⟩) E.eq E.fn fin
  | @tup p xs ep =>
    obtain rfl : v = Value.ref p := rx
    obtain ⟨its, r, ht, hz⟩ := I.tuple (SqT.of ep)
    obtain ⟨⟨cls, dd, data, sl⟩, ho, hc, n, hd⟩ := ht
    simp only at hc hd
    subst hc hd
    exact cmp_back hu KX J ⟨_, ho, rfl⟩ (hsb _ (by decide +kernel)) PySem.F.slot_tuple_eq (fun Q' q' => call_meetsIn PySem.F.slot_tuple_eq ⟨_, ho, rfl⟩ PySem.F.entry_tuple_eq (PySem.F.args_tuple_eq_2 _ _) (tuple_back p a its.toArray n dd sl) ⟨ho, noi _ (by decide +kernel), q'⟩) E.eq E.fn fin
  | @dict p kvs ep =>
    obtain rfl : v = Value.ref p := rx
    have ty := dict_typeIs I (DGet.k (k := Sum.inl 0) ep)
    obtain ⟨o, ho, hc⟩ := id ty
    exact cmp_back hu KX J ty (hsb _ (by decide +kernel)) PySem.F.slot_dict_eq (fun Q' q' => call_meetsIn PySem.F.slot_dict_eq ty PySem.F.entry_dict_eq (PySem.F.args_dict_eq_2 _ _) (dict_back p a o) ⟨ho, noi _ (by decide +kernel), q'⟩) E.eq E.fn fin
theorem op_eqK {X : Cx} {k : Nat} {f C : Addr} {sp : Sp} {ps : List Str} (E : EqC X.K C f) (Fn : FnG X.prog X.w X.K X.mg X.base k f ps sp) (hb : Binds X.K (fdOf X.K f) ps []) (hgu : X.A.guards = some []) (hr : Room (k + 1) X.A)
    (hsb : ∀ n ∈ seven, PySem.W.subIn X.K (.ref C) (.type n) = some false) : OpR X (compareOp .Eq) (REqK X.K C sp) := by
  intro pins s σ H x y v u Q I rx ry h
  cases h with
  | l q => exact op_eqO E Fn hb hgu hr pins s σ H _ _ v u Q I rx ry q
  | @r a dx fs _ _ _ e pl q =>
    obtain rfl : u = Value.ref a := ry
    refine wpAny_mono (back_at (P := fun c H' => Q (.bl c) H') E Fn hb hgu rfl hr hsb I rx e pl q) (fun u' s' z => ?_) fun _ _ z => z
    obtain ⟨c, rfl, H', I', q'⟩ := z
    exact ⟨.bl c, H', I', rfl, q'⟩
end Wk

set_option maxRecDepth 100000
set_option maxHeartbeats 4000000
/-! x in a list whose items may be asked by an own __eq__. -/
namespace Wk
open PySem PySem.Spec PyProof.Rows L2 PySem.SeqAt
open AutoSeq1 (wpAny_loadPart')
open MeetsSeq MeetsSeq2 MeetsSeq3 SeqRoads2
section
variable {prog : Program} {w : World} {A : Around} {R : Result → Shared → Prop}
theorem contains_loopG (l : Addr) (x : Value) (N : Nat) (I : Nat → Shared → Prop) (hl : ∀ i s, I i s → ∃ (items : Array Value) (n : Nat), s.heap.get? l = some { cls := .type "list", data := .seq items n } ∧ items.size = N ∧
      ∀ h : i < items.size, wpAny (model prog w) A.in1 (eqBool items[i] x) (fun r s' => if r = true then R (.ok (.ret (.bool true))) s' else I (i + 1) s') (fun e s' => R (.error e) s') s)
    (fin : ∀ s, I N s → R (.ok (.ret (.bool false))) s) (k : Nat) :
    ∀ i : Nat, N - i = k → i ≤ N → ∀ s, I i s →
      wpAny (model prog w) A.in1 (Builtin.«list.__contains__.loop» ⟨[.ref l, x, rawInt i], []⟩) (GQ.FinOf prog w A R) (fun e s' => R (.error e) s') s := by
  induction k with
  | zero =>
    intro i hk hi s h
    obtain ⟨items, n, hl1, hN, _⟩ := hl _ _ h
    have hi' : i = N := by omega
    have hR : R (.ok (.ret (.bool false))) s := fin s (hi' ▸ h)
    obtain ⟨hp, g, d, tk, os⟩ := s
    wp_walk using wpAny_loadPart' hl1
    have hi1 : items[((i : Nat) : Int).toNat]? = none := by simp; omega
    rw [hi1]
    wp_walk
    exact hR
  | succ k ih =>
    intro i hk hi s h
    obtain ⟨items, n, hl1, hN, turn⟩ := hl _ _ h
    have hlt : i < items.size := by omega
    have ht := turn hlt
    obtain ⟨hp, g, d, tk, os⟩ := s
    wp_walk using wpAny_loadPart' hl1
    have hi1 : items[((i : Nat) : Int).toNat]? = some items[i] := by simp [hlt]
    have hc : ((i : Int) + 1) = ((i + 1 : Nat) : Int) := by omega
    rw [hi1]
    refine wpAny_bind (wpAny_mono ht (fun r s2 h2 => ?_) fun _ _ x => x)
    cases r with
    | true =>
      obtain ⟨hp2, g2, d2, tk2, os2⟩ := s2
      rw [if_pos rfl] at h2
      wp_walk
      exact h2
    | false =>
      rw [if_neg (by decide)] at h2
      have hrec := ih (i + 1) (by omega) (by omega) s2 h2
      obtain ⟨hp2, g2, d2, tk2, os2⟩ := s2
      wp_walk
      rw [hc]
      exact ⟨plainId_quiet plain_contains_loop _, codeAny_builtin entry_contains_loop (by
        rw [Around.under_plainId plain_contains_loop _]
        exact hrec)⟩
theorem contains_G (l : Addr) (x : Value) (N : Nat) (I : Nat → Shared → Prop) (hl : ∀ i s, I i s → ∃ (items : Array Value) (n : Nat), s.heap.get? l = some { cls := .type "list", data := .seq items n } ∧ items.size = N ∧
      ∀ h : i < items.size, wpAny (model prog w) A.in1 (eqBool items[i] x) (fun r s' => if r = true then R (.ok (.ret (.bool true))) s' else I (i + 1) s') (fun e s' => R (.error e) s') s)
    (fin : ∀ s, I N s → R (.ok (.ret (.bool false))) s) {s : Shared} (h : I 0 s) :
    wpAny (model prog w) A.in1 (Builtin.«list.__contains__» ⟨[.ref l, x], []⟩) (GQ.FinOf prog w A R) (fun e s' => R (.error e) s') s := by
  obtain ⟨items, n, hl1, hN, _⟩ := hl _ _ h
  have hrec := contains_loopG (A := A) (R := R) l x N I hl fin _ 0 rfl (Nat.zero_le _) s h
  obtain ⟨hp, g, d, tk, os⟩ := s
  wp_walk using wpAny_loadPart' hl1
  exact ⟨plainId_quiet plain_contains_loop _, codeAny_builtin entry_contains_loop (by
    rw [Around.under_plainId plain_contains_loop _]
    exact hrec)⟩
end
theorem in_listG {prog : Program} {w : World} {A : Around} {E : Value → Shared → Prop} {l : Addr} {x : Value} {N : Nat} {Q : Value → Shared → Prop} (I : Nat → Shared → Prop) (hl : ∀ i s, I i s → ∃ (items : Array Value) (n : Nat), s.heap.get? l = some { cls := .type "list", data := .seq items n } ∧ items.size = N ∧
      ∀ h : i < items.size, wpAny (model prog w) A.in1 (eqBool items[i] x) (fun r s' => if r = true then Q (.bool true) s' else I (i + 1) s') E s) (fin : ∀ s, I N s → Q (.bool false) s) {s : Shared} (h : I 0 s) :
    wpAny (model prog w) A (compareOp .In x (.ref l)) Q E s := by
  obtain ⟨items, n, hl1, _, _⟩ := hl _ _ h
  have hT : s.TypeIs (.ref l) "list" := ⟨_, hl1, rfl⟩
  show wpAny _ A (do return .bool (← contains (.ref l) x)) Q E s
  refine wpAny_bind (wpAny_contains_slot hT PySem.F.slot_list_contains (wpAny_mono (Q := fun v s' => ∃ b, v = .bool b ∧ Q (.bool b) s') (GQ.call_here PySem.F.slot_list_contains hT PySem.F.entry_list_contains (PySem.F.args_list_contains_2 _ _) (contains_G l x N I (fun i s' q => ?_) (fun s' q => ?_) h)) (fun v s' hv => ?_) fun _ _ e => e))
  · obtain ⟨items, n, a, b, c⟩ := hl i s' q
    refine ⟨items, n, a, b, fun hi => wpAny_mono (c hi) (fun r s2 hr => ?_) fun _ _ e => e⟩
    cases r with
    | true => exact ⟨true, rfl, hr⟩
    | false => exact hr
  · exact ⟨false, rfl, fin s' q⟩
  · obtain ⟨b, rfl, hq⟩ := hv
    exact wpAny_truthy_bool (wpAny_pure hq)
/-! ### == of an item and an own instance, within a builtin -/
theorem eqBool_neG {prog : Program} {w : World} {A : Around} {E : Value → Shared → Prop} {s : Shared} {v : Value} {a : Addr} {Q : Bool → Shared → Prop} (hne : (v == .ref a) = false) (h : wpAny (model prog w) A (richCompare .Eq v (.ref a)) (fun v s' => ∃ r, v = .bool r ∧ Q r s') E s) : wpAny (model prog w) A (eqBool v (.ref a)) Q E s := by
  unfold eqBool
  refine wpAny_holding ?_
  rw [if_neg (by rw [hne]; decide)]
  have body : wpAny (model prog w) A (richCompare .Eq v (.ref a) >>= truthOfDropped) Q E s := by
    refine wpAny_bind (wpAny_mono h (fun v s' hv => ?_) fun _ _ x => x)
    obtain ⟨r, rfl, q⟩ := hv
    exact wpAny_truthy_bool q
  cases v <;> exact body
abbrev EqRel := V → Addr → Hp → (Bool → Hp → Prop) → Prop
def EqRun (X : Cx) (n : Nat) (r : EqRel) : Prop := ∀ (A : Around) (pins : List (Addr × Obj)) (s : Shared) (σ : L2.St) (H : Hp) (y : V) (a : Addr) (v : Value) (P : Bool → Hp → Prop), A.guards = some [] → A.frames = X.A.frames → Room n A → Inv X pins σ H s → RelV y v → r y a H P →
  wpAny (model X.prog X.w) A (eqBool v (.ref a)) (fun b s' => ∃ H', Inv X pins σ H' s' ∧ P b H') X.xe s
theorem EqRun.or {X : Cx} {n : Nat} {r r' : EqRel} (h : EqRun X n r) (h' : EqRun X n r') : EqRun X n (fun y a H P => r y a H P ∨ r' y a H P) := fun A pins s σ H y a v P hg hf hr I rv q => q.elim (h A pins s σ H y a v P hg hf hr I rv) (h' A pins s σ H y a v P hg hf hr I rv)
theorem EqRun.mono {X : Cx} {n m : Nat} {r : EqRel} (h : EqRun X n r) (l : n ≤ m) : EqRun X m r := fun A pins s σ H y a v P hg hf hr I rv q => h A pins s σ H y a v P hg hf (hr.mono l) I rv q
/-- the very instance -/
def eqwSelf : EqRel := fun y a H P => y = .ref a ∧ P true H
theorem eqw_self {X : Cx} {n : Nat} : EqRun X n eqwSelf := fun A pins s σ H y a v P _ _ _ I rv q => by
  obtain ⟨rfl, q⟩ := q
  obtain rfl : v = Value.ref a := rv
  exact SeqAt.EqAt.same (.ref a) X.prog X.w _ _ ⟨H, I, q⟩
/-- a plain item: the instance's class is asked back -/
def eqwBack (C : Addr) (sp : Sp) : EqRel := fun y a H P => (∃ dx fs, H a = some (.ins C dx fs)) ∧ Pl H y ∧ (∀ b, y = .ref b → b ≠ a) ∧ sp [.ref a, y] H (fun v H' => ∃ c, v = .bl c ∧ P c H') (fun _ _ _ => False)
/-- an item of C itself, or another thing on the right -/
def eqwOwn (K : PySem.W.Frag) (C : Addr) (sp : Sp) : EqRel := fun y a H P => ∃ b dx fs t, y = .ref b ∧ b ≠ a ∧ H b = some (.ins C dx fs) ∧ Ty K H (.ref a) t ∧ PySem.W.notFirst K C t = true ∧ sp [.ref b, .ref a] H (fun v H' => ∃ c, v = .bl c ∧ P c H') (fun _ _ _ => False)
section
variable {X : Cx} {k : Nat} {f C : Addr} {sp : Sp} {ps : List Str}
theorem eqw_own (E : EqC X.K C f) (Fn : FnG X.prog X.w X.K X.mg X.base k f ps sp) (hb : Binds X.K (fdOf X.K f) ps []) : EqRun X (k + 1) (eqwOwn X.K C sp) := fun A pins s σ H y a v P hgu hfr hr I rv q => by
  obtain ⟨b, dx, fs, t, rfl, ne, e, ty, hn, q⟩ := q
  obtain rfl : v = Value.ref b := rv
  obtain ⟨ox, od, J⟩ := ins_at I e
  obtain ⟨Z0, Z, p, _⟩ := ty_of I (show RelV (.ref a) (Value.ref a) from rfl) ty
  obtain ⟨m, hF⟩ := I.fr
  refine eqBool_neG (by
    have : ¬ (Value.ref b = Value.ref a) := fun z => ne (by injection z)
    simpa using this) ?_
  refine PySem.W.cmp_K (op := .Eq) hr.units0 hF I.ok.mod.kin J (Z.ty _ _ I.kIn p) hn E.eq E.fn ?_
  refine wpAny_mono (run_at Fn hgu hfr (hr.mono (Nat.le_succ _)) hb I (.cons (show L2.RelV (.ref b) (.ref b) from rfl) (.cons (show L2.RelV (.ref a) (.ref a) from rfl) .nil)) q) (fun u' s' hu => ?_) fun _ _ z => z
  obtain ⟨w', H', I', rw', c, rfl, q'⟩ := hu
  obtain rfl : u' = Value.bool c := rw'
  exact ⟨c, rfl, H', I', q'⟩
theorem eqw_back (E : EqC X.K C f) (Fn : FnG X.prog X.w X.K X.mg X.base k f ps sp) (hb : Binds X.K (fdOf X.K f) ps []) (hsb : ∀ n ∈ seven, PySem.W.subIn X.K (.ref C) (.type n) = some false) : EqRun X (k + 1) (eqwBack C sp) := fun A pins s σ H y a v P hgu hfr hr I rv q => by
  obtain ⟨⟨dx, fs, e⟩, pl, ne, q⟩ := q
  refine eqBool_neG ?_ ?_
  · cases pl with
    | non => cases rv; rfl
    | bl b => cases rv; rfl
    | int i => obtain ⟨t, rfl⟩ := rv; rfl
    | str z => obtain ⟨t, rfl⟩ := rv; rfl
    | @lst p xs ep =>
      obtain rfl : v = Value.ref p := rv
      have : ¬ (Value.ref p = Value.ref a) := fun z => ne p rfl (by injection z)
      simpa using this
    | @tup p xs ep =>
      obtain rfl : v = Value.ref p := rv
      have : ¬ (Value.ref p = Value.ref a) := fun z => ne p rfl (by injection z)
      simpa using this
    | @dict p kvs ep =>
      obtain rfl : v = Value.ref p := rv
      have : ¬ (Value.ref p = Value.ref a) := fun z => ne p rfl (by injection z)
      simpa using this
  · refine wpAny_mono (back_at (P := P) E Fn hb hgu hfr hr hsb I rv e pl q) (fun u' s' z => ?_) fun _ _ z => z
    exact z
end
/-! ### x in a list -/
def InW (r : EqRel) (a p : Addr) (all : List V) : List V → Hp → VK → Prop
  | [], H, Q => H p = some (.lst all) ∧ Q (.bl false) H
  | y :: ys, H, Q => H p = some (.lst all) ∧ r y a H fun c H' => if c = true then Q (.bl true) H' else InW r a p all ys H' Q
inductive RInW (r : EqRel) : V → V → Hp → VK → Prop
  | mk {a p : Addr} {ys : List V} {H : Hp} {Q : VK} : InW r a p ys ys H Q → RInW r (.ref a) (.ref p) H Q
theorem inW_at {r : EqRel} {a p : Addr} {all : List V} : ∀ {ys : List V} {H : Hp} {Q : VK}, InW r a p all ys H Q → H p = some (.lst all)
  | [], _, _, h => h.1
  | _ :: _, _, _, h => h.1
theorem op_inW {X : Cx} {n : Nat} {r : EqRel} (he : EqRun X n r) (hgu : X.A.guards = some []) (hr : Room (n + 1) X.A) : OpR X (compareOp .In) (RInW r) := by
  intro pins s σ H x y v u Q I rx ry h
  cases h with
  | @mk a p ys _ _ q =>
    obtain rfl : v = Value.ref a := rx
    obtain rfl : u = Value.ref p := ry
    refine in_listG (N := ys.length) (fun i s' => ∃ H', Inv X pins σ H' s' ∧ InW r a p ys (ys.drop i) H' Q) (fun i s' q' => ?_) (fun s' q' => ?_) ⟨H, I, q⟩
    · obtain ⟨H', I', q'⟩ := q'
      have ep := inW_at q'
      obtain ⟨its, m, rv, ho, hz⟩ := I'.lst ep
      have hl := rv.length
      refine ⟨its.toArray, m, ho, by rw [List.size_toArray, hl], fun hi => ?_⟩
      have hi2 : i < ys.length := by
        rw [List.size_toArray] at hi
        omega
      rw [List.drop_eq_getElem_cons hi2] at q'
      obtain ⟨w', ew, rw'⟩ := rv.get (List.getElem?_eq_getElem hi2)
      have hi3 : i < its.length := by omega
      have ew2 : its.toArray[i] = w' := by
        rw [List.getElem?_eq_getElem hi3] at ew
        simpa using ew
      rw [ew2]
      refine wpAny_mono (he X.A.in1 pins s' σ H' _ a w' _ (by exact hgu) rfl hr.in1 I' rw' q'.2) (fun b s2 hb => ?_) fun _ _ e => e
      obtain ⟨H2, I2, hq⟩ := hb
      cases b with
      | true => exact ⟨.bl true, H2, I2, rfl, hq⟩
      | false => exact ⟨H2, I2, hq⟩
    · obtain ⟨H', I', q'⟩ := q'
      rw [List.drop_of_length_le (Nat.le_refl _)] at q'
      exact ⟨.bl false, H', I', rfl, q'.2⟩
end Wk

set_option maxRecDepth 100000
set_option maxHeartbeats 4000000
/-! f"{x}" of an own instance. -/
namespace Wk
open PySem PySem.Spec PyProof.Rows L2
inductive RFmtO (C : Addr) (sp : Sp) : V → Hp → VK → Prop
  | b {x : V} {H : Hp} {Q : VK} : RFmt x H Q → RFmtO C sp x H Q
  | o {a dx : Addr} {fs : List (Str × V)} {H : Hp} {Q : VK} : H a = some (.ins C dx fs) → sp [.ref a] H (fun v H' => ∃ z, v = .str z ∧ Q (.str z) H') (fun _ _ _ => False) → RFmtO C sp (.ref a) H Q
def tFmtO (C : Addr) (sp : Sp) (te : TE) : TE := fun σ H Q => te σ H fun x H1 => RFmtO C sp x H1 Q
theorem pe_fmtO {X : Cx} {k : Nat} {f C : Addr} {sp : Sp} {ps : List Str} {e : Expr} {te : TE} {pos : Pos} (he : PE X e te) (hfm : PySem.W.findIn X.K (.ref C) "__format__" = some (some (.builtin "object.__format__"))) (hm : PySem.W.mroIn X.K C (.type "object") = some true)
    (hc : PySem.W.findIn X.K (.ref C) "__str__" = some (some (.ref f))) (hf : PySem.W.isFn X.K (.ref f) = true) (F : FnG X.prog X.w X.K X.mg X.base k f ps sp) (hb : Binds X.K (fdOf X.K f) ps []) (hgu : X.A.guards = some []) (hr : Room (k + 2) X.A) : PE X (.FormattedValue e (-1) none pos) (tFmtO C sp te) := by
  refine ⟨fun pins s σ H Q I h => ?_⟩
  refine wpAny_FormattedValue_plain (thn (he.run pins s σ H _ I h) fun v s1 ⟨x, H1, I1, r1, q⟩ => ?_)
  cases q with
  | b q =>
    cases q with
    | @str z _ _ hz q =>
      obtain ⟨t, rfl⟩ := r1
      exact wpAny_formatField_str ⟨.str z, H1, I1, ⟨t, rfl⟩, q⟩ ⟨.str z, H1, I1.tok _, ⟨_, rfl⟩, q⟩ (small_ok hz)
    | @int i _ _ hz q =>
      obtain ⟨t, rfl⟩ := r1
      exact wpAny_formatField_int hz ⟨.str (toString i), H1, I1.tok _, ⟨_, rfl⟩, q⟩
  | @o a dx fs _ _ ea q =>
    obtain rfl : v = Value.ref a := r1
    obtain ⟨ox, od, J⟩ := ins_at I1 ea
    refine PySem.W.kfo_fieldS hr.in1.units0 I1.kIn J hfm hm hc hf ?_
    refine wpAny_mono (run_at F (by exact hgu) rfl (hr.in1.mono (Nat.le_succ _)) hb (I1.tok _) (.cons (show L2.RelV (.ref a) (.ref a) from rfl) .nil) q) (fun u' s' hu => ?_) fun _ _ z => z
    obtain ⟨w', H', I', rw', z, rfl, q'⟩ := hu
    obtain ⟨t, rfl⟩ := rw'
    exact ⟨.str z, H', I', ⟨t, rfl⟩, q'⟩
theorem se_fmtO {C : Addr} {sp : Sp} {te : TE} {σ : L2.St} {H : Hp} {Q : VK} (h : te σ H fun x H1 => RFmtO C sp x H1 Q) : tFmtO C sp te σ H Q := h
end Wk

set_option maxRecDepth 100000
set_option maxHeartbeats 4000000
/-! enumerate(xs, start=k); ranges with a step. -/
namespace Wk
open PySem PySem.Spec PyProof.Rows L2
/-- the list at a as it stands at each turn, each item in a new pair, counted from k -/
def IteF (K : PySem.W.Frag) (a : Addr) (k : Int) : It :=
  ⟨fun i H => ∃ (xs : List V) (x : V), SqL K H a xs ∧ xs[i]? = some x, fun i H v H' => ∃ T x, v = .ref T ∧ H T = none ∧ H' = upd H T (.tup [.int (k + (i : Nat)), x]) ∧ ∀ xs, SqL K H a xs → xs[i]? = some x, fun i H => ∃ xs : List V, SqL K H a xs ∧ xs.length = i⟩
theorem turn_enumF {P : Program} {w : World} {K : PySem.W.Frag} {elts : List Expr} {kk : Nat} {tpos : Pos} (a e it : Addr) (k : Int) :
    Turn P w K (.Tuple elts kk tpos) (IteF K a k) [e, it] e (fun i h => (∃ old, IsEnum h e it (k + ((i : Nat) : Int)) old) ∧ h.IsListIter it a i ∧ e ≠ it) where
  mem := by simp
  obj := fun i h st b hb => by
    obtain ⟨⟨old, he⟩, ⟨o, ho, hc, hd⟩, _⟩ := st
    have e' : b = e ∨ b = it := by simpa using hb
    rcases e' with z | z
    · rw [z]; exact ⟨_, he, fun v q => nomatch q⟩
    · rw [z]; exact ⟨o, ho, fun v q => by rw [hd] at q; cases q⟩
  keep := fun i h h' st k => let ⟨⟨old, he⟩, hi, hne⟩ := st; ⟨⟨old, k e (by simp) _ he⟩, hi.at fun o q => k it (by simp) o q, hne⟩
  item := by
    intro X hP hw hK hc i pins s σ H E I hf st hg
    subst hP hw hK
    obtain ⟨⟨old, he⟩, hit, hne⟩ := st
    obtain ⟨xs, x, hq, hx⟩ := hg
    obtain ⟨its, rv, p, hz⟩ := I.list hq
    obtain ⟨u, hu, ru⟩ := rv.get hx
    have hel : e < s.heap.objs.size := Heap.lt_size he
    have hil : it < s.heap.objs.size := by obtain ⟨_, q, _⟩ := hit; exact Heap.lt_size q
    have pl := p.isList
    have hae : a ≠ e := by
      intro z
      obtain ⟨o, ho, hcl, _⟩ := pl
      rw [z] at ho
      rw [he] at ho
      cases ho
      replace hcl : Value.type "enumerate" = Value.type "list" := hcl
      exact absurd hcl (by decide)
    have hai : a ≠ it := by
      intro z
      obtain ⟨o, ho, hcl, _⟩ := pl
      obtain ⟨o2, ho2, hc2, _⟩ := hit
      rw [z, ho2] at ho
      cases ho
      rw [hc2] at hcl
      exact absurd hcl (by decide)
    have hl := rv.length
    have hlx := (List.getElem?_eq_some_iff.mp hx).1
    have DR := Draws.list (prog := X.prog) (w := X.w) (A := X.A.in1) (show X.A.in1.handled = none from I.ok.hd hc) it a hai its.toArray
    refine wpAny_pyNext_enum_itemC DR he ⟨hit, pl⟩ (i := i) (show i < its.toArray.size by
      rw [List.size_toArray]
      omega) hne (by simp [hne, Ne.symm hae]) fun y h' tk hy ho hst hT hsz hk => ?_
    have hyu : y = u := by
      have : its[i]? = some y := by simpa using hy
      rw [hu] at this
      cases this
      rfl
    subst hyu
    refine ⟨_, rfl, wpAny_letOwnedTupleGo_enum (s := { s with heap := h', toks := tk + 1 }) ho fun h'' he' sb => ?_⟩
    have hT2 : h''.get? s.heap.objs.size = some { cls := .type "tuple", data := .seq #[.int (k + (i : Int)) tk, y] } := (sb.2 _ (Nat.ne_of_gt hel)).trans hT
    have new : ObjOk X.prog X.w (upd H s.heap.objs.size (.tup [.int (k + (i : Nat)), x])) h'' s.heap.objs.size (.tup [.int (k + (i : Nat)), x]) :=
      ⟨by show 2 ≤ sizeLine; decide, [.int (k + (i : Int)) tk, y], .cons ⟨_, rfl⟩ (.cons ru .nil), ⟨_, hT2, rfl, _, rfl⟩⟩
    have I1 : Inv X pins σ (upd H s.heap.objs.size (.tup [.int (k + (i : Nat)), x])) { s with heap := h'', toks := tk + 1 } :=
      I.turnedNew (ch := [e, it]) (fun b ob hb q => (sb.2 b (fun z => hb (by simp [z]))).trans (hk b ob (fun z => hb (by simp [z])) (fun z => hb (by simp [z])) q)) hf (Nat.le_refl _) new
    refine ⟨.ref s.heap.objs.size, _, I1, rfl, ⟨_, x, rfl, I.hok.fresh (Nat.le_refl _), rfl, fun ys hy => by rw [I.list_inj hy hq]; exact hx⟩, ⟨⟨y, ?_⟩, hst.1.at fun o q => (sb.2 it (Ne.symm hne)).trans q, hne⟩, fun b hb => ?_⟩
    · have e1 : k + ((i + 1 : Nat) : Int) = k + (i : Int) + 1 := by omega
      rw [e1]; exact he'
    · have hb' : b < s.heap.objs.size := by
        have e' : b = e ∨ b = it := by simpa using hb
        rcases e' with z | z
        · rw [z]; exact hel
        · rw [z]; exact hil
      rw [upd_ne (Nat.ne_of_lt hb')]
      exact (hf b hb).1
  done := by
    intro X hP hw hK hc i pins s σ H E I hf st hg
    subst hP hw hK
    obtain ⟨⟨old, he⟩, hit, hne⟩ := st
    obtain ⟨xs, hq, hx⟩ := hg
    obtain ⟨its, rv, p, hz⟩ := I.list hq
    obtain ⟨f0, f1, f2, f3, f4, f5⟩ := hf it (by simp)
    have hl := rv.length
    have pl := p.isList
    have hai : a ≠ it := by
      intro z
      obtain ⟨o, ho, hcl, _⟩ := pl
      obtain ⟨o2, ho2, hc2, _⟩ := hit
      rw [z, ho2] at ho
      cases ho
      rw [hc2] at hcl
      exact absurd hcl (by decide)
    have hn : its.toArray.size = i := by simp; omega
    have DR := Draws.list (prog := X.prog) (w := X.w) (A := X.A.in1) (show X.A.in1.handled = none from I.ok.hd hc) it a hai its.toArray
    exact wpAny_pyNext_enum_endD DR he (show s.heap.IsListIter it a its.toArray.size ∧ s.heap.IsList a its.toArray by rw [hn]; exact ⟨hit, pl⟩) fun h' eb => ⟨rfl, I.turned (t' := s.toks) (fun b o hb q => eb b o hb q) f0 f1 f3 f4 f5⟩
  self := fun A i s Q E st h => let ⟨⟨_, he⟩, _⟩ := st; wpAny_pyIter_enum he h
def iEnumF (K : PySem.W.Frag) (ta tk : TA) : TI := fun σ H R => ta σ H fun vs H1 => tk σ H1 fun zs H2 => ∃ a xs k, vs = [.ref a] ∧ zs = [.int k] ∧ (-1000 ≤ k ∧ k ≤ 1000) ∧ SqL K H2 a xs ∧ R (IteF K a k) H2
theorem callWith_type_kw {M : Model} {A : Around} {E : Value → Shared → Prop} {s : Shared} {env : Env} {pos : Pos} {T : String} {e : Expr} {rest : List Expr} {kws : List Keyword} {Q : Value → Shared → Prop}
    (h : wpAny M A (spliced (backTo pos (starEach (e :: rest) env))) (fun vs s₁ => wpAny M A (evalAll ((backToKw pos (keywordEach kws env)).map (·.2)))
      (fun kvs s₂ => wpAny M A (call (.type T) vs (((backToKw pos (keywordEach kws env)).filterMap (·.1)).zip kvs)) Q E s₂) E s₁) E s)
    (he : backTo pos (starEach (e :: rest) env) = (false, eval e env) :: backTo pos (starEach rest env) := by rfl)
    (hplain : (backTo pos (starEach (e :: rest) env)).any (·.1) = false := by rfl)
    (hall : (backToKw pos (keywordEach kws env)).all (·.1.isSome) = true := by rfl)
    (hkw : (backToKw pos (keywordEach kws env)).any (·.1.isNone) = false := by rfl) :
    wpAny M A (callWith pos (.type T) [] (backTo pos (starEach (e :: rest) env)) (backToKw pos (keywordEach kws env))) Q E s := by
  unfold callWith
  have h2 : wpAny M A (evalArgs (.type T) true (backTo pos (starEach (e :: rest) env)) (backToKw pos (keywordEach kws env))) (fun a s₁ => wpAny M A (call (.type T) ([] ++ a.pos) a.kw) Q E s₁) E s := by
    rw [he] at h ⊢
    exact evalArgs_kwB hall h
  refine wpAny_bind (wpAny_holding (wpAny_mono h2 (fun a s₁ h₁ => wpAny_bind (wpAny_standAt ?_)) fun _ _ x => x))
  simp only [hplain, hkw, Bool.or_false]
  refine wpAny_bind (wpAny_pure ?_)
  exact wpAny_bind (wpAny_mono h₁ (fun r s₂ hr => wpAny_bind (wpAny_holding (wpAny_point (wpAny_pure hr)))) fun _ _ x => x)
theorem pi_enumF {X : Cx} {e : Expr} {ta tk : TA} {kws : List Keyword} {p pos tpos : Pos} {elts : List Expr} {kk : Nat} (hg : Gl X "enumerate") (hm : X.mg "enumerate" = none) (ha : PA X [e] ta) (hk : PK X kws tk)
    (he : backTo pos (starEach [e] X.env) = (false, eval e X.env) :: backTo pos (starEach [] X.env) := by rfl) (hpl : (backTo pos (starEach [e] X.env)).any (·.1) = false := by rfl)
    (hall : (backToKw pos (keywordEach kws X.env)).all (·.1.isSome) = true := by rfl) (hnone : (backToKw pos (keywordEach kws X.env)).any (·.1.isNone) = false := by rfl) (hks : (backToKw pos (keywordEach kws X.env)).filterMap (·.1) = [Str.ofString "start"] := by rfl) :
    PI X (.Tuple elts kk tpos) (.Call (.Name "enumerate" p) [e] kws pos) (iEnumF X.K ta tk) := by
  refine ⟨fun pins s σ H R I h => ?_⟩
  refine wpAny_Call_Name_kw (ld_blt I hg hm boot_enumerate ?_)
  refine callWith_type_kw (thn (ha.run pos pins s σ H _ I h) fun us s1 ⟨vs, H1, I1, r1, q1⟩ => thn (hk.run pos pins s1 σ H1 _ I1 q1) fun ws s2 ⟨zs, H2, I2, r2, q2⟩ => ?_) he hpl hall hnone
  rw [hks]
  obtain ⟨a, xs, k, ex, ez, ⟨k0, k1⟩, hq, q⟩ := q2
  subst ex ez
  cases r1 with
  | cons r rr =>
    cases rr
    cases r
    cases r2 with
    | cons r' rr' =>
      cases rr'
      obtain ⟨t, rfl⟩ := r'
      obtain ⟨its, rv, p', hz⟩ := I2.list hq
      refine enum_begins_start (begins_list a its.toArray) p'.isList (by omega) (by omega) fun h' hen hit hsz hk => wpAny_pyIter_enum hen ?_
      have I3 : Inv X pins σ H2 { s2 with heap := h' } := I2.kept (t' := s2.toks) hk
      refine ⟨s2.heap.objs.size + 1, [s2.heap.objs.size + 1, s2.heap.objs.size], _, _, H2, rfl, I3, turn_enumF a (s2.heap.objs.size + 1) s2.heap.objs.size k, ⟨⟨.none, by simpa using hen⟩, ⟨_, hit, rfl, rfl⟩, Nat.succ_ne_self _⟩, fun b hb => ?_, q⟩
      have e' : b = s2.heap.objs.size + 1 ∨ b = s2.heap.objs.size := by simpa using hb
      have hle : s2.heap.objs.size ≤ b := by
        rcases e' with z | z
        · rw [z]; exact Nat.le_add_right _ _
        · rw [z]; exact Nat.le_refl _
      exact I2.fpOk hle (I2.hok.fresh hle)
theorem walk_enumF {K : PySem.W.Frag} {a : Addr} {k : Int} {xs : List V} : Walk (IteF K a k) xs.length (fun H => SqL K H a xs) (YPair (fun i => some (.int (k + (i : Nat)))) (fun i => xs[i]?)) := by
  refine ⟨fun i _ hi q => ⟨xs, xs[i], q, by simp [hi]⟩, fun _ q => ⟨xs, q, rfl⟩, fun i H v H' _ q y => ?_⟩
  obtain ⟨T, x, h1, h2, h3, h4⟩ := y
  exact ⟨T, .int (k + (i : Nat)), x, h1, h2, h3, rfl, h4 xs q⟩
section
variable {K : PySem.W.Frag} {σ : L2.St} {H D0 : Hp} {ta tk tl : TA} {te : TE} {R : It → Hp → Prop} {R0 : Cells} {a b : Addr} {xs ys : List V} {g : TG} {tb : TS} {D : Ends} {n : Nat}
theorem it_enumF (h : ta σ H fun vs H1 => tk σ H1 fun zs H2 => ∃ a xs k, vs = [.ref a] ∧ zs = [.int k] ∧ (-1000 ≤ k ∧ k ≤ 1000) ∧ SqL K H2 a xs ∧ R (IteF K a k) H2) : iEnumF K ta tk σ H R := h
theorem enumF_mk {k : Int} {P : Addr → Int → Prop} (h1 : H a = some (.lst xs)) (hk : -1000 ≤ k ∧ k ≤ 1000) (q : P a k) : ∃ a' xs k', [V.ref a] = [.ref a'] ∧ [V.int k] = [.int k'] ∧ (-1000 ≤ k' ∧ k' ≤ 1000) ∧ SqL K H a' xs ∧ P a' k' := ⟨a, xs, k, rfl, rfl, hk, SqL.of h1, q⟩
theorem for_enumF {k : Int} (I : Nat → L2.St → Cells → Hp → Prop) (hi : HI H R0 D0) (h0 : I 0 σ R0 D0) (hl : ∀ i σ R Dd, I i σ R Dd → Dd a = some (.lst xs))
    (hs : ∀ (i : Nat) x T σ R Dd Dd' H, xs[i]? = some x → HI H R Dd' → Ex Dd Dd' → Dd' T = some (.tup [.int (k + (i : Nat)), x]) → I i σ R Dd → g (.ref T) σ H fun σ2 H2 => tb { D with nx := NX I (i + 1), ct := NX I (i + 1), bk := D.nx } σ2 H2)
    (hd : ∀ σ R Dd H, HI H R Dd → I xs.length σ R Dd → D.nx σ H) : ForK (IteF K a k) g tb D σ H :=
  for_hi walk_enumF I hi h0 (fun i σ R Dd H _ q p => SqL.of (q.dat (hl i σ R Dd p))) (fun i v σ R Dd H H' hn1 hi1 b y => by
    obtain ⟨T, x, z, rfl, hT, rfl, e1, e2⟩ := y
    cases e1
    exact hs i z T σ R Dd _ _ e2 (hi1.newD hT) (Ex.new (hi1.free hT)) upd_same b) hd
theorem it_rng3 (h : ta σ H fun vs H1 => ∃ (i j c : Int) (n : Nat), vs = [.int i, .int j, .int c] ∧ RgC i j c n ∧ R (Itc i c n) H1) : iRng3 ta σ H R := h
theorem rng3_dn {i j : Int} {P : Int → Int → Nat → Prop} (h : (-(2 ^ 62) ≤ i ∧ i < 2 ^ 62) ∧ -(2 ^ 62) ≤ j ∧ j < 2 ^ 62) (q : P i (-1) (i - j).toNat) : ∃ (i' j' c : Int) (n : Nat), [V.int i, V.int j, V.int (-1)] = [.int i', .int j', .int c] ∧ RgC i' j' c n ∧ P i' c n :=
  ⟨i, j, -1, _, rfl, RgC.neg h.1.1 h.1.2 h.2.1 h.2.2, q⟩
theorem for_rngC {lo c : Int} (I : Nat → L2.St → Cells → Hp → Prop) (hi : HI H R0 D0) (h0 : I 0 σ R0 D0)
    (hs : ∀ (i : Nat) σ R Dd H, i < n → HI H R Dd → I i σ R Dd → g (.int (lo + (i : Nat) * c)) σ H fun σ2 H2 => tb { D with nx := NX I (i + 1), ct := NX I (i + 1), bk := D.nx } σ2 H2)
    (hd : ∀ σ R Dd H, HI H R Dd → I n σ R Dd → D.nx σ H) : ForK (Itc lo c n) g tb D σ H :=
  for_hi walk_rangeC I hi h0 (fun _ _ _ _ _ _ _ _ => trivial) (fun i x σ R Dd H H' hn a b y => by
    obtain ⟨rfl, rfl⟩ := y
    exact hs i σ R Dd H' hn a b) hd
end
/-- xs.index(y) within a comprehension -/
theorem pe_idxC {X : Cx} {K : PySem.W.Frag} {o e : Expr} {to : TE} {t : TA} {apos cpos : Pos} (ho : PE X o to) (ha : PA X [e] t)
    (hbase : attributeBase o (Str.ofString "index") X.env (eval o X.env) = eval o X.env)
    (hfew : ((backTo cpos (starEach [e] X.env)).all (fun x => !x.1) && (backToKw cpos (keywordEach [] X.env)).all (fun x => x.1.isSome)
      && decide ([e].length + ([] : List Keyword).length + (if ([] : List Keyword).isEmpty then 0 else 1) < 30)) = true)
    (hline : (apos.endLine == cpos.line) = true) (hs : starEach [e] X.env = (false, eval e X.env) :: starEach [] X.env) (hplain : (backTo cpos (starEach [] X.env)).any (·.1) = false) (hK : X.K = K) :
    PE X (.Call (.Attribute o (Str.ofString "index") apos) [e] [] cpos) (tBM K "list" (rIndex K) to t) := by
  subst hK
  exact pe_bm PySem.F.plainAttrs_list PySem.F.slot_list_index PySem.F.type_list_index mt_index ho ha hbase hfew hline hs hplain
theorem index_mk {K : PySem.W.Frag} {a : Addr} {ys : List V} {y : V} {j : Nat} {z : V} {H : Hp} {Q : VK} (h : H a = some (.lst ys)) (fy : flatV y = true) (fys : ys.all flatV = true) (hz : ys[j]? = some z) (e : L2.eqV z y = true) (hno : ∀ (m : Nat) (z' : V), m < j → ys[m]? = some z' → L2.eqV z' y = false) (q : Q (.int (j : Nat)) H) : rIndex K (.ref a) [y] H Q :=
  ⟨a, ys, y, j, z, rfl, rfl, SqL.of h, fy, fys, hz, e, hno, q⟩
theorem pi_listC {X : Cx} {K : PySem.W.Frag} {tg e : Expr} {tl : TE} (he : PE X e tl) (hK : X.K = K) : PI X tg e (iList K tl) := by
  subst hK
  exact pi_list he
end Wk

set_option maxRecDepth 100000
set_option maxHeartbeats 4000000
/-! A dict's items, the dict locked meanwhile. -/
namespace Wk
open PySem PySem.Spec PyProof.Rows L2
/-- the data without what stands at d -/
def outD (D : Hp) (d : Addr) : Hp := fun b => if b = d then none else D b
section
variable {K : PySem.W.Frag} {σ : L2.St} {H D D0 : Hp} {R R0 : Cells} {d : Addr} {o : HO}
theorem HI.thaw (h : HI H R D) (e : D d = some o) : HI H ((d, o) :: R) (outD D d) := by
  refine ⟨?_, fun q hq => ?_, fun b w e2 => ?_⟩
  · rw [List.map_cons, List.nodup_cons]
    refine ⟨fun hm => ?_, h.nd⟩
    obtain ⟨q, hq, e1⟩ := List.mem_map.mp hm
    have := (h.cell q hq).2
    rw [e1, e] at this
    cases this
  · rcases List.mem_cons.mp hq with rfl | m
    · exact ⟨h.sub _ _ e, if_pos rfl⟩
    · refine ⟨(h.cell q m).1, ?_⟩
      show (if q.1 = d then none else D q.1) = none
      split
      · rfl
      · exact (h.cell q m).2
  · have : b ≠ d := fun z => by
      have e3 : (if b = d then none else D b) = some w := e2
      rw [if_pos z] at e3
      cases e3
    have e3 : (if b = d then none else D b) = some w := e2
    rw [if_neg this] at e3
    exact h.sub _ _ e3
theorem outD_ex : Ex (outD D d) D := fun b w e => by
  have e3 : (if b = d then none else D b) = some w := e
  split at e3
  · cases e3
  · exact e3
theorem outD_back {D2 : Hp} (h : Ex (outD D d) D2) (e : D d = some o) : Ex D (upd D2 d o) := fun b w e2 => by
  by_cases z : b = d
  · subst z
    rw [e] at e2
    cases e2
    exact upd_same
  · rw [upd_ne z]
    exact h _ _ (show (if b = d then none else D b) = some w by rw [if_neg z]; exact e2)
/-- a dict of the data is locked while an expression runs -/
theorem se_lock {t : TE} {Q : VK} {u : HO} (hI : HI H R D) (e : D d = some u) (mu : Mut (some u))
    (q : ∀ od H1, HI H1 ((d, .frz od u) :: R) (outD D d) → t σ H1 fun v H' => H' d = some (.frz od u) ∧ Q v (upd H' d u)) : tLockE t σ H Q :=
  ⟨d, u, hI.sub _ _ e, mu, fun od => q od _ (hI.thaw e).set⟩
theorem lock_end {u : HO} {od : Obj} {D2 H' : Hp} {P : Hp → Prop} (h : HI H' ((d, .frz od u) :: R) D2) (x : Ex (outD D d) D2) (e : D d = some u) (k : ∀ H2 D3, HI H2 R D3 → Ex D D3 → Ex D2 D3 → P H2) : H' d = some (.frz od u) ∧ P (upd H' d u) :=
  ⟨h.get (List.mem_cons_self ..), k _ _ (h.set (u := u)).freeze (outD_back x e) fun b w e2 => by
    have : b ≠ d := fun z => by
      have := (h.cell _ (List.mem_cons_self ..)).2
      rw [z] at e2
      rw [this] at e2
      cases e2
    rw [upd_ne this]
    exact e2⟩
end
section
variable {J : It} {n : Nat} {g : TG} {tb : TS} {σ : L2.St} {H D0 : Hp} {R0 : Cells} {tt : TT} {te : TE} {vs : List Nat} {Q : VK} {d : Addr} {o : Obj} {kvs : List (Key × V)} {td : TE} {R : It → Hp → Prop}
theorem it_items (h : td σ H fun x H1 => ∃ d o kvs, x = .ref d ∧ H1 d = some (.frz o (.dK kvs)) ∧ R (Iti d o kvs) H1) : iItems td σ H R := h
theorem items_mk {P : Addr → Obj → List (Key × V) → Prop} (h : H d = some (.frz o (.dK kvs))) (q : P d o kvs) : ∃ d' o' kvs', V.ref d = .ref d' ∧ H d' = some (.frz o' (.dK kvs')) ∧ P d' o' kvs' := ⟨d, o, kvs, rfl, h, q⟩
theorem lc_items (I : Nat → List V → Cells → Hp → Prop) (hi : HI H R0 D0) (h0 : I 0 [] R0 D0) (hl : ∀ i acc R Dd, I i acc R Dd → ((d, HO.frz o (.dK kvs)) : Addr × HO) ∈ R)
    (hs : ∀ L i acc k v T R Dd Dd' H, kvs[i]? = some (k, v) → HI H ((L, .lst acc) :: R) Dd' → Ex Dd Dd' → Dd' T = some (.tup [kV k, v]) → I i acc R Dd → acc.length ≤ i → g (.ref T) (wipe σ vs) H fun σ2 H2 => wipe σ2 vs = wipe σ vs ∧ tt σ2 H2 fun b H3 => if b = true then te σ2 H3 (LE L I (i + 1)) else PW' L I (i + 1) H3)
    (hd : ∀ L acc R Dd H, HI H ((L, .lst acc) :: R) Dd → I kvs.length acc R Dd → acc.length ≤ kvs.length → Q (.ref L) H) : LcK (Iti d o kvs) g tt te vs σ H Q :=
  lc_hi walk_items I hi h0 (fun i acc R Dd H _ q p => q.get (hl i acc R Dd p)) (fun L i acc v R Dd H H' hn1 hi1 b c y => by
    obtain ⟨T, x, z, rfl, hT, rfl, e1, e2⟩ := y
    have hlt : i < kvs.length := hn1
    have e3 := List.getElem?_eq_getElem hlt
    generalize kvs[i] = kv at e3
    have e1' : kvs[i]?.map (fun kv => kV kv.1) = some x := e1
    have e2' : kvs[i]?.map Prod.snd = some z := e2
    rw [e3] at e1' e2'
    cases e1'
    cases e2'
    exact hs L i acc kv.1 kv.2 T R Dd _ _ e3 (hi1.newD hT) (Ex.new (hi1.free hT)) upd_same b c) hd
end
end Wk

set_option maxRecDepth 100000
set_option maxHeartbeats 4000000
/-! sorted over a list of data of one shape; list(range(..)). -/
namespace Wk
open PySem PySem.Spec PyProof.Rows L2
def rSortD : List V → Hp → VK → Prop := fun vs H Q => ∃ (a : Addr) (xs : List V) (β : Type) (bs : List β) (enc : β → PyData) (r : V → β → Prop), vs = [V.ref a] ∧ H a = some (.lst xs) ∧ Paired r xs bs ∧ (∀ x b, r x b → Rep H x (enc b)) ∧ PySem.W.AllAlike (bs.map enc) ∧ PySem.W.Sortable (bs.map enc) ∧ bs.length ≤ 1000000 ∧ (∀ b ∈ bs, (enc b).depth ≤ 50) ∧
  ∀ ys, Paired r ys (bs.mergeSort (PySem.W.dataLe false enc)) → AlD (.lst ys) H Q
theorem each_of {β : Type} {r : V → β → Prop} : ∀ {xs : List V} {bs : List β} {us : List Value}, Paired r xs bs → Vals xs us → PySem.W.EachIs (fun v b => ∃ x, RelV x v ∧ r x b) us bs
  | _, _, _, .nil, .nil => .nil
  | _, _, _, .cons h l, .cons r rs => .cons ⟨_, r, h⟩ (each_of l rs)
theorem each_back {β : Type} {r : V → β → Prop} : ∀ {us : List Value} {bs : List β}, PySem.W.EachIs (fun v b => ∃ x, RelV x v ∧ r x b) us bs → ∃ ys, Vals ys us ∧ Paired r ys bs
  | _, _, .nil => ⟨[], .nil, .nil⟩
  | _, _, .cons ⟨x, r, h⟩ l => let ⟨ys, a, b⟩ := each_back l; ⟨x :: ys, .cons r a, .cons h b⟩
theorem call_sortD {X : Cx} {k : Nat} (hr : Room k X.A) (hs : HasSys X.K) : CallR X (.builtin "sorted") rSortD := by
  intro pins s σ H vs us Q I r h
  obtain ⟨a, xs, β, bs, enc, r0, rfl, ea, pr, hrep, hal, hk, hlen, hdep, q⟩ := h
  obtain ⟨its, rv, hl, hz⟩ := I.list (SqL.of ea)
  rw [Vals.ref1 r]
  have e := each_of pr rv
  have er : PySem.W.EachIs (fun v b => ∃ as, Reads s.heap v (enc b) as) its bs := e.mono fun v b ⟨x, rx, h⟩ => by
    obtain ⟨as, h1, _⟩ := Rep.reads I hs (hrep x b h) rx
    exact ⟨as, h1⟩
  have hu : ∀ b, b ∈ bs → X.A.units + 2 + (enc b).depth < cLine := fun b hb => by
    have := hr.un
    have := hdep b hb
    omega
  refine PySem.W.sorted_data (R := fun v b => ∃ x, RelV x v ∧ r0 x b) (enc := enc) hl.isList e er hal hk (Nat.le_trans hlen (by rw [sizeLine_eq]; decide)) hu (fun out ol eo => ?_)
  · obtain ⟨ys, ry, py⟩ := each_back eo
    obtain ⟨ep, he'⟩ := PyProof.Rows.sortedAll_at s.heap its out.toArray
    have hl2 : ys.length ≤ sizeLine := by
      rw [ry.length, ol]
      exact Nat.le_trans hlen (by rw [sizeLine_eq]; decide)
    exact ⟨.ref _, upd H (s.heap.objs.size + 1) (.lst ys), I.laid (t' := s.toks) (fun _ _ => PyProof.Rows.sortedAll_old) (Nat.le_succ _) ⟨hl2, out, ep, ry, he'⟩, rfl, q ys py _ (I.hok.fresh (Nat.le_succ _))⟩
/-- by the head, a whole number -/
theorem head_le {β : Type} {enc : β → PyData} (k : β → Int) {r : β → List PyData} (h : ∀ b, enc b = .tuple (.int (k b) :: r b)) {bs : List β} : (bs.mergeSort (PySem.W.dataLe false enc)).Pairwise (fun a b => k a ≤ k b) := by
  refine (PySem.W.sort_pairwise (PySem.W.sortLe_total _ false _) bs).imp fun {a b} hab => ?_
  rcases Int.lt_or_le (k b) (k a) with hlt | hge
  · exfalso
    have h1 : PySem.W.dataLt (enc b) (enc a) = true := by
      rw [h, h, PySem.W.dataLt_tuple, PySem.W.dataLt_cons (by rfl)]
      have e : PyData.eqv (.int (k b)) (.int (k a)) = false := by
        simp [PyData.eqv]
        omega
      rw [e, if_neg (by decide), PySem.W.dataLt_int]
      exact decide_eq_true hlt
    have h2 : PySem.W.dataLe false enc a b = true := hab
    rw [PySem.W.dataLe_eq] at h2
    have h3 : (!PySem.W.dataLt (enc b) (enc a)) = true := h2
    rw [h1] at h3
    cases h3
  · exact hge
section
variable {K : PySem.W.Frag} {σ : L2.St} {H D : Hp} {R : Cells} {Q : VK} {ta tb te : TE}
theorem se_lrg (h : ta σ H fun x H1 => tb σ H1 fun y H2 => ∃ i j, x = .int i ∧ y = .int j ∧ RgOk i j ∧ AlD (.lst (rgV i j)) H2 Q) : tLstRg (tRg2 ta tb) σ H Q := h
theorem lrg_mk {i j : Int} (h : RgOk i j) (q : AlD (.lst (rgV i j)) H Q) : ∃ i' j', V.int i = .int i' ∧ V.int j = .int j' ∧ RgOk i' j' ∧ AlD (.lst (rgV i' j')) H Q := ⟨i, j, rfl, rfl, h, q⟩
end
end Wk

set_option maxRecDepth 100000
set_option maxHeartbeats 4000000
/-! sorted(d.items()) of a dict of whole numbers, its values pairs of whole numbers -/
namespace Wk
open PySem PySem.Spec PyProof.Rows L2
section
variable {X : Cx}
def rItK : V → List V → Hp → VK → Prop := fun x xs H Q => ∃ (a : Addr) (kvs : List (Key × V)), x = .ref a ∧ xs = [] ∧ H a = some (.dK kvs) ∧ ∀ p, H p = none → Q (.ref p) (upd H p (DX.itemsO p a))
theorem mt_itemsK : MtR X "dict.items" rItK := by
  intro pins s σ H x xs v us Q I rx rxs h
  obtain ⟨a, kvs, rfl, rfl, ha, q⟩ := h
  cases rx
  cases rxs
  obtain ⟨z, hd, vs, rel, o, es, ep, ho, hx, hdat, _⟩ := dk_of I.hok ha
  refine DT.callItems (es := es) (ep := ep) hd ⟨o, ho, hx, hdat⟩ ?_
  have hf : H s.heap.objs.size = none := I.hok.fresh (Nat.le_refl _)
  exact ⟨.ref s.heap.objs.size, upd H s.heap.objs.size (DX.itemsO s.heap.objs.size a), I.laid (t' := s.toks) (fun b u e => Heap.get?_push_of_some _ e) (Nat.le_refl _) (DX.itemsO_ok (Heap.get?_push_size _ rfl)), rfl, q _ hf⟩
/-- key, and pair -/
abbrev KP := Int × Int × Int
def encP (z : KP) : PyData := .tuple [.int z.1, .tuple [.int z.2.1, .int z.2.2]]
def KPAt (H : Hp) (q : Key × V) (z : KP) : Prop := q.1 = .inl z.1 ∧ ∃ b, q.2 = .ref b ∧ H b = some (.tup [.int z.2.1, .int z.2.2])
theorem KPAt.mono {H H' : Hp} {q : Key × V} {z : KP} (h : KPAt H q z) (x : Ex H H') : KPAt H' q z := let ⟨a, b, c, d⟩ := h; ⟨a, b, c, x _ _ d⟩
def rSortIK : List V → Hp → VK → Prop := fun vs H Q => ∃ (p a : Addr) (kvs : List (Key × V)) (zs : List KP) (r : Key × V → KP → Prop), vs = [.ref p] ∧ H p = some (DX.itemsO p a) ∧ H a = some (.dK kvs) ∧ zs.length ≤ 100 ∧ (∀ q z, r q z → KPAt H q z) ∧ Paired r kvs zs ∧
  ∀ (H' : Hp) (l : Addr) (ts : List Addr) (qs : List (Key × V)), Ex H H' → H l = none → H' l = some (.lst (ts.map V.ref)) → Paired (fun t (q : Key × V) => H t = none ∧ H' t = some (.tup [kV q.1, q.2])) ts qs → Paired r qs (zs.mergeSort (PySem.W.dataLe false encP)) → Q (.ref l) H'
theorem alike_encP {z y : KP} : PySem.W.alike (encP z) (encP y) = true := by simp [encP, PySem.W.alike, PySem.W.alikeAll]
theorem each_ix {β : Type} {R : Value → β → Prop} : ∀ {us : List Value} {bs : List β}, us.length = bs.length → (∀ (j : Nat) (u : Value) (b : β), us[j]? = some u → bs[j]? = some b → R u b) → PySem.W.EachIs R us bs
  | [], [], _, _ => .nil
  | u :: us, b :: bs, hl, h => .cons (h 0 u b rfl rfl) (each_ix (Nat.succ.inj hl) fun j v c e1 e2 => h (j + 1) v c e1 e2)
  | [], _ :: _, hl, _ => by cases hl
  | _ :: _, [], hl, _ => by cases hl
def KPR (H0 H : Hp) (r : Key × V → KP → Prop) (v : Value) (z : KP) : Prop := ∃ t q, v = .ref t ∧ H0 t = none ∧ H t = some (.tup [kV q.1, q.2]) ∧ r q z
theorem kpr_back {H0 H : Hp} {r : Key × V → KP → Prop} : ∀ {us : List Value} {zs : List KP}, PySem.W.EachIs (KPR H0 H r) us zs → ∃ (ts : List Addr) (qs : List (Key × V)), us = ts.map Value.ref ∧ Paired (fun t (q : Key × V) => H0 t = none ∧ H t = some (.tup [kV q.1, q.2])) ts qs ∧ Paired r qs zs
  | _, _, .nil => ⟨[], [], rfl, .nil, .nil⟩
  | _, _, .cons ⟨t, q, e, h0, h1, h2⟩ l => by
    obtain ⟨ts, qs, e2, p1, p2⟩ := kpr_back l
    exact ⟨t :: ts, q :: qs, by rw [e, e2]; rfl, .cons ⟨h0, h1⟩ p1, .cons h2 p2⟩
theorem kpr_reads {pins : List (Addr × Obj)} {σ : L2.St} {H : Hp} {s : Shared} {v : Value} {z : KP} {l : Addr} {H0 : Hp} {r : Key × V → KP → Prop} (hr : ∀ q z, r q z → KPAt H q z) (I : Inv X pins σ H s) (h : KPR H0 H r v z) : ∃ as, Reads s.heap v (encP z) as ∧ l ∉ as := by
  obtain ⟨t, q, rfl, _, ht, hq⟩ := h
  obtain ⟨e1, b, e2, hb⟩ := hr _ _ hq
  rw [e1, e2] at ht
  obtain ⟨its, rv, ⟨o, ho, hc, n, hd⟩, _⟩ := I.tuple (SqT.of ht)
  obtain ⟨its2, rv2, ⟨o2, ho2, hc2, n2, hd2⟩, _⟩ := I.tuple (SqT.of hb)
  obtain ⟨u1, u2, rfl, r1, r2⟩ := rv.two
  obtain ⟨w1, w2, rfl, r3, r4⟩ := rv2.two
  obtain ⟨t1, rfl⟩ := r1
  cases r2
  obtain ⟨t3, rfl⟩ := r3
  obtain ⟨t4, rfl⟩ := r4
  exact ⟨_, Reads.tuple ho hc hd (.cons (.int _ _) (.cons (Reads.tuple ho2 hc2 hd2 (.cons (.int _ _) (.cons (.int _ _) .nil))) .nil)), by simp⟩
theorem cr_sortIK (hc : X.calm = true) (hu : X.A.units + 64 < cLine) : CallR X (.builtin "sorted") rSortIK := by
  intro pins s σ H xs us Q I r h
  obtain ⟨p, a, kvs, zs, r0, rfl, hp, ha, h100, hr0, hz, q⟩ := h
  obtain rfl := Vals.ref1 r
  have view : s.heap.IsItemsView p a := (show ObjOk X.prog X.w H s.heap p (DX.itemsO p a) from I.hok p _ hp).1
  obtain ⟨zl, hs0, vs, kv, hdo⟩ := dk_of I.hok ha
  obtain ⟨ep, hat⟩ := hdo.dictAt
  have lk : kvs.length = vs.length := Paired.length kv
  have lz : kvs.length = zs.length := Paired.length hz
  have hsz : vs.length ≤ sizeLine := by rw [← lk]; exact zl
  refine Calls.call_function_entry PyProof.Rows.kind_sorted PyProof.Rows.plain_sorted PyProof.Rows.entry_sorted (PyProof.Rows.args_sorted1 _) ?_
  unfold Builtin.«sorted»
  refine wpAny_bind (m := checkCount "sorted" 1 1 _) (wpAny_pure ?_)
  refine wpAny_bind (PySem.W.kdx_collect (A := X.A.in1) (knd := mixKind X.prog X.w) (kvs := vs) (ep := ep) (I.ok.hd hc) view hat hsz fun h' tk as hk hl hG => ?_)
  have nd : as.Nodup := List.Pairwise.imp (fun {a b} (h : a < b) => Nat.ne_of_lt h) hG.rise
  have I1 : Inv X pins σ H { s with heap := h', toks := tk } := I.kept (t' := tk) hk
  obtain ⟨H2, I2, g, qt⟩ := DX.takeT (P := fun b ws => ∃ (j : Nat) (kw : Key × V), as[j]? = some b ∧ kvs[j]? = some kw ∧ ws = [kV kw.1, kw.2]) I as _ I1 nd fun b hb => by
    obtain ⟨j, hj⟩ := List.mem_iff_getElem?.mp hb
    obtain ⟨key, k, x, f1, f2, f3⟩ := hG.pairs j b hj
    have hbl : s.heap.objs.size ≤ b := Nat.le_of_lt (hG.above b hb)
    obtain ⟨kw, g1, g2, g3⟩ := paired_get2 kv f1
    have rk : RelV (kV kw.1) key := by
      rw [g2]
      exact relV_key (show keyIs k key = true from f2)
    exact ⟨hbl, I.hok.fresh hbl, [kV kw.1, kw.2], ⟨j, kw, hj, g1, rfl⟩, fun H3 => ⟨by show 2 ≤ sizeLine; decide, [key, x], .cons rk (.cons g3 .nil), ⟨_, f3, rfl, _, rfl⟩⟩⟩
  have at2 : ∀ (j : Nat) (b : Addr), as[j]? = some b → ∃ kw, kvs[j]? = some kw ∧ H b = none ∧ H2 b = some (.tup [kV kw.1, kw.2]) := by
    intro j b hj
    have hb0 : H b = none := I.hok.fresh (Nat.le_of_lt (hG.above b (List.mem_of_getElem? hj)))
    obtain ⟨ws, ⟨i, kw, i1, i2, rfl⟩, hH⟩ := qt b (List.mem_of_getElem? hj)
    have eij : i = j := (List.getElem?_inj (List.getElem?_eq_some_iff.mp i1).1 nd).mp (i1.trans hj.symm)
    subst eij
    exact ⟨kw, i2, hb0, hH⟩
  have la : (as.map Value.ref).length ≤ sizeLine := by rw [List.length_map, hl]; exact hsz
  refine wpAny_bind (wpAny_newList ?_ la)
  have ob : (h'.push (seqObj "list" (as.map Value.ref).toArray 0)).get? h'.objs.size = some (seqObj "list" (as.map Value.ref).toArray 0) := Heap.get?_push_size _ rfl
  show wpAny _ _ _ _ _ { s with heap := h'.push (seqObj "list" (as.map Value.ref).toArray 0), toks := tk }
  have I3 : Inv X pins σ H2 { s with heap := h'.push (seqObj "list" (as.map Value.ref).toArray 0), toks := tk } := I2.kept (t' := tk) fun b ob q => Heap.get?_push_of_some _ q
  have each : PySem.W.EachIs (KPR H H2 r0) (as.map Value.ref) zs := by
    refine each_ix (by rw [List.length_map, hl, ← lk, lz]) fun j u z e1 e2 => ?_
    rw [List.getElem?_map] at e1
    obtain ⟨b, hb, rfl⟩ := Option.map_eq_some_iff.mp e1
    obtain ⟨kw, k1, k0, k2⟩ := at2 j b hb
    obtain ⟨z', z1, z2⟩ := paired_get hz k1
    have ez : z' = z := Option.some.inj (z1.symm.trans e2)
    subst ez
    exact ⟨b, kw, rfl, k0, k2, z2⟩
  have er := each.mono fun v z h => kpr_reads (l := h'.objs.size) (fun q z hq => (hr0 q z hq).mono g) I3 h
  refine wpAny_bind (wpAny_holding (PySem.W.list_sort_data (A := X.A.in1) (s := { s with heap := h'.push (seqObj "list" (as.map Value.ref).toArray 0), toks := tk }) (R := KPR H H2 r0) (enc := encP) (a := h'.objs.size) ob each er (.of fun _ _ => alike_encP) (.tuples fun b => ⟨_, _, rfl⟩) (by rw [sizeLine_eq]; omega) (fun b _ => ?_) fun out ol eo => ?_))
  · have e : (encP b).depth ≤ 3 := by simp [encP, PyData.depth, PyData.depthAll]
    show X.A.units + 1 + 1 + _ < cLine
    omega
  · obtain ⟨ts, qs, rfl, p1, p2⟩ := kpr_back eo
    obtain ⟨eF, heF⟩ := PyProof.Rows.sortedHeap_at (vs := as.map Value.ref) (out := (ts.map Value.ref).toArray) ob
    have hn0 : H2 h'.objs.size = none := I2.hok.fresh (Nat.le_refl _)
    have hlen : (ts.map V.ref).length ≤ sizeLine := by
      rw [List.length_map] at ol ⊢
      rw [ol, sizeLine_eq]
      omega
    have up : Ex H2 (upd H2 h'.objs.size (.lst (ts.map V.ref))) := fun b o e => by rw [upd_ne (ne_of_none e hn0)]; exact e
    have hl0 : H h'.objs.size = none := by
      cases e : H h'.objs.size with
      | none => rfl
      | some o => exact absurd (g _ _ e) (by rw [hn0]; exact fun h => nomatch h)
    refine wpAny_pure ⟨_, rfl, .ref h'.objs.size, upd H2 h'.objs.size (.lst (ts.map V.ref)), I2.laid (t' := tk) (fun b u e => ?_) (Nat.le_refl _) (show ObjOk X.prog X.w _ _ _ (.lst (ts.map V.ref)) from ⟨hlen, ts.map Value.ref, eF, LiI.vals_refs ts, heF⟩), rfl, q _ h'.objs.size ts qs (fun b o e => up b o (g b o e)) hl0 upd_same (paired_mono (fun _ _ h => ⟨h.1, up _ _ h.2⟩) p1) p2⟩
    have hb : b < h'.objs.size := Heap.lt_size e
    rw [PyProof.Rows.sortedHeap_old (Nat.ne_of_lt hb) (by rw [size_push']; exact Nat.lt_succ_of_lt hb)]
    exact Heap.get?_push_of_some _ e
/-- d != {} -/
def rNeKE : V → V → Hp → VK → Prop := fun x y H Q => ∃ (a b : Addr) (kvs : List (Key × V)), x = .ref a ∧ y = .ref b ∧ H a = some (.dK kvs) ∧ H b = some (.dK []) ∧ Q (.bl (!kvs.isEmpty)) H
theorem op_neKE (hu : X.A.units + 64 < cLine) : OpR X (compareOp .NotEq) rNeKE := by
  intro pins s σ H x y v u Q I rx ry h
  obtain ⟨a, b, kvs, rfl, rfl, ea, eb, q⟩ := h
  obtain rfl : v = Value.ref a := rx
  obtain rfl : u = Value.ref b := ry
  obtain ⟨_, ya, va, ra, da⟩ := (show ObjOk X.prog X.w H s.heap a (.dK kvs) from I.hok a _ ea)
  obtain ⟨_, yb, vb, rb, db⟩ := (show ObjOk X.prog X.w H s.heap b (.dK []) from I.hok b _ eb)
  have la : kvs.length = va.length := ra.length
  have lb : vb.length = 0 := rb.length.symm
  refine PySem.W.keq_ne (knd := mixKind X.prog X.w) (r := true) ya yb da db (by omega) (fun hl => ?_) (fin_bl I q ?_)
  · obtain rfl : va = [] := List.length_eq_zero_iff.mp (hl.trans lb)
    exact .nil
  · rw [lb, ← la]
    cases kvs <;> rfl
/-- dict(list of pairs), a cell -/
inductive RDictPM : List V → Hp → VK → Prop
  | p {a : Addr} {ps : List Addr} {kvs : List (Key × V)} {H : Hp} {Q : VK} : H a = some (.lst (ps.map V.ref)) → Paired (fun p kv => H p = some (.tup [kV kv.1, kv.2])) ps kvs → AlM (.dK (mergeK [] kvs)) H Q → RDictPM [.ref a] H Q
theorem call_dictPM (hc : X.calm = true) : CallR X (.type "dict") RDictPM := by
  intro pins s σ H xs us Q I r h
  cases h with
  | p e pr q => exact call_dictP hc pins s σ H _ us Q I r ⟨_, _, _, rfl, SqL.of e, paired_mono (fun _ _ h => SqT.of h) pr, q⟩
/-! ### views -/
variable {H D : Hp} {R : Cells} {Q : VK}
theorem itk_mk {a : Addr} {kvs : List (Key × V)} (hI : HI H R D) (e : H a = some (.dK kvs)) (q : ∀ p H' D', HI H' R D' → Ex D D' → D' p = some (DX.itemsO p a) → Ex H H' → Q (.ref p) H') : rItK (.ref a) [] H Q :=
  ⟨a, kvs, rfl, rfl, e, fun p hp => q p _ _ (hI.newD hp) (Ex.new (hI.free hp)) upd_same (Ex.new hp)⟩
/-- much new data -/
theorem HI.grow {H' : Hp} (h : HI H R D) (x : Ex H H') : ∃ D', HI H' R D' ∧ Ex D D' ∧ ∀ b o, H b = none → H' b = some o → D' b = some o := by
  refine ⟨fun b => if (H b).isSome = true then D b else H' b, ⟨h.nd, fun p hp => ?_, fun a o e => ?_⟩, fun a o e => ?_, fun b o e1 e2 => ?_⟩
  · obtain ⟨c1, c2⟩ := h.cell p hp
    refine ⟨x _ _ c1, ?_⟩
    show (if (H p.1).isSome = true then D p.1 else H' p.1) = none
    rw [if_pos (by rw [c1]; rfl)]
    exact c2
  · by_cases hs : (H a).isSome = true
    · have e' : (if (H a).isSome = true then D a else H' a) = some o := e
      rw [if_pos hs] at e'
      exact x _ _ (h.sub _ _ e')
    · have e' : (if (H a).isSome = true then D a else H' a) = some o := e
      rw [if_neg hs] at e'
      exact e'
  · show (if (H a).isSome = true then D a else H' a) = some o
    rw [if_pos (by rw [h.sub _ _ e]; rfl)]
    exact e
  · show (if (H b).isSome = true then D b else H' b) = some o
    rw [e1, if_neg (by decide)]
    exact e2
/-- rising by the key -/
theorem kp_rises {zs : List KP} : (zs.mergeSort (PySem.W.dataLe false encP)).Pairwise (fun a b => a.1 ≤ b.1) := head_le (enc := encP) (fun b : KP => b.1) (r := fun b : KP => [.tuple [.int b.2.1, .int b.2.2]]) fun _ => rfl
theorem kp_perm {zs : List KP} : (zs.mergeSort (PySem.W.dataLe false encP)).Perm zs := List.mergeSort_perm _ _
theorem sortik_mk {p a : Addr} {kvs : List (Key × V)} {zs : List KP} (hI : HI H R D) (ep : D p = some (DX.itemsO p a)) (e : H a = some (.dK kvs)) (l : zs.length ≤ 100) (pr : Paired (KPAt D) kvs zs)
    (q : ∀ (l : Addr) (ts : List Addr) (qs : List (Key × V)) (ys : List KP) H' D', HI H' R D' → Ex D D' → D' l = some (.lst (ts.map V.ref)) → Paired (fun t (q : Key × V) => D' t = some (.tup [kV q.1, q.2])) ts qs → Paired (KPAt D') qs ys → ys.Perm zs → ys.Pairwise (fun a b => a.1 ≤ b.1) → Q (.ref l) H') : rSortIK [.ref p] H Q := by
  refine ⟨p, a, kvs, zs, KPAt D, rfl, hI.dat ep, e, l, fun q z h => h.mono hI.sub, pr, fun H' l ts qs x l0 l1 p1 p2 => ?_⟩
  obtain ⟨D', hI', xD, nw⟩ := hI.grow x
  exact q l ts qs _ H' D' hI' xD (nw _ _ l0 l1) (paired_mono (fun _ _ h => nw _ _ h.1 h.2) p1) (paired_mono (fun _ _ h => h.mono xD) p2) kp_perm kp_rises
end
end Wk

set_option maxRecDepth 100000
set_option maxHeartbeats 4000000
namespace Wk
open PySem PySem.Spec PyProof.Rows L2
local macro_rules | `(tactic| walk_at "mem") => `(tactic| first
  | exact List.mem_cons_self ..
  | exact List.mem_cons_of_mem _ (List.mem_cons_self ..)
  | exact List.mem_cons_of_mem _ (List.mem_cons_of_mem _ (List.mem_cons_self ..))
  | exact List.mem_cons_of_mem _ (List.mem_cons_of_mem _ (List.mem_cons_of_mem _ (List.mem_cons_self ..)))
  | exact List.mem_cons_of_mem _ (List.mem_cons_of_mem _ (List.mem_cons_of_mem _ (List.mem_cons_of_mem _ (List.mem_cons_self ..)))))
local macro_rules | `(tactic| walk_at "dat") => `(tactic| first
  | assumption
  | (refine Ex.of ?_ (by assumption); walk_at "dat"))
local macro_rules | `(tactic| walk_at "ex") => `(tactic| first
  | assumption
  | exact Ex.refl _
  | (refine Ex.trans ?_ (by assumption); walk_at "ex"))
local macro_rules | `(tactic| walk_at "hp") => `(tactic| first
  | assumption
  | exact HI.get (by assumption) (by walk_at "mem")
  | exact HI.dat (by assumption) (by walk_at "dat"))
local macro_rules | `(tactic| walk_at "hi") => `(tactic| first
  | assumption
  | exact HI.swap (by assumption)
  | exact HI.up2 (by assumption)
  | exact HI.up3 (by assumption))
local macro_rules | `(tactic| walk_at "num") => `(tactic| first
  | omega
  | decide
  | exact ⟨by decide, by decide⟩
  | exact cdiv_of (by omega) (by omega)
  | exact ⟨by omega, by omega⟩
  | (refine ⟨by omega, by omega, ?_⟩; omega)
  | exact Or.inl ⟨by omega, by omega⟩
  | exact Or.inr ⟨by omega, by omega⟩)
local macro_rules | `(tactic| walk_at "kn") => `(tactic| first
  | assumption
  | exact Kn.int _
  | exact Kn.str _
  | exact Kn.bl _
  | exact Kn.non
  | exact HI.kn (by assumption) (by assumption)
  | exact HI.kn (by assumption) (Kn.mono (by assumption) (by assumption))
  | exact Kn.lst (by walk_at "hp")
  | exact Kn.tup (by walk_at "hp")
  | exact Kn.dict (by walk_at "hp"))
local macro_rules | `(tactic| walk_at "s1") => `(tactic| first
  | with_reducible refine st_seq ?_
  | with_reducible refine st_asg ?_
  | with_reducible refine st_ret ?_
  | with_reducible refine st_if ?_
  | with_reducible refine st_drop ?_
  | with_reducible refine st_next ?_
  | with_reducible refine st_brk ?_
  | with_reducible refine st_cont ?_
  | with_reducible refine sg_name ?_
  | with_reducible refine sg_sub ?_
  | with_reducible refine sg_nil ?_
  | with_reducible refine sg_cons ?_
  | ((with_reducible refine' sg_tup ?e1 ?e2 ?_); (case e1 => exact SqT.of (by walk_at "hp")); (case e2 => rfl))
  | ((with_reducible refine' se_var ?e1 ?_); (case e1 => rfl))
  | with_reducible refine se_c ?_
  | with_reducible refine se_op ?_
  | with_reducible refine se_un ?_
  | with_reducible refine se_tup ?_
  | with_reducible refine se_lst ?_
  | with_reducible refine se_lstM ?_
  | with_reducible refine st_for ?_
  | with_reducible refine se_lc ?_
  | with_reducible refine it_rng1 ?_
  | with_reducible refine it_rng2 ?_
  | with_reducible refine it_list ?_
  | with_reducible refine it_str ?_
  | with_reducible refine strI_mk ?_
  | ((with_reducible refine' list_mk ?e1 ?_); (case e1 => walk_at "hp"))
  | ((with_reducible refine' rng1_mk ?e1 ?e2 ?_); (case e1 => omega); (case e2 => omega))
  | ((with_reducible refine' rng2_mk ?e1 ?_); (case e1 => omega))
  | with_reducible refine st_yes ?_
  | ((with_reducible refine' al_D ?e1 ?_); (case e1 => assumption); intro _ _ _ _ _ _)
  | ((with_reducible refine' al_M ?e1 ?_); (case e1 => assumption); intro _ _ _)
  | ((with_reducible refine' and_on ?e1 ?_); (case e1 => first | exact small_ok (Nat.le_of_ble_eq_true rfl) | rfl | omega))
  | with_reducible refine sa_nil ?_
  | with_reducible refine sa_cons ?_
  | with_reducible refine se_cb ?_
  | with_reducible refine se_if ?_
  | with_reducible refine st_test ?_
  | with_reducible refine st_B ?_
  | with_reducible refine st_bl ?_
  | with_reducible refine st_and ?_
  | with_reducible refine st_or ?_
  | with_reducible refine st_not ?_
  | with_reducible refine ri0_mk ?_
  | with_reducible refine ru_mk ?_
  | ((with_reducible refine' ri_mk ?e1 ?_); (case e1 => walk_at "num"))
  | with_reducible refine RAdd.int ?_
  | ((with_reducible refine' RMul.int ?e1 ?_); (case e1 => walk_at "num"))
  | with_reducible refine req_int ?_
  | with_reducible refine rne_int ?_
  | with_reducible refine req_str ?_
  | with_reducible refine rne_str ?_
  | ((with_reducible refine' RIx.l ?e1 ?e2 ?_); (case e1 => walk_at "hp"); (case e2 => rfl))
  | ((with_reducible refine' set_c ?e1 ?e2 ?_); (case e1 => assumption); (case e2 => rfl); intro _ _)
  | ((with_reducible refine' set_c2 ?e1 ?e2 ?_); (case e1 => assumption); (case e2 => rfl); intro _ _)
  | ((with_reducible refine' set_c3 ?e1 ?e2 ?_); (case e1 => assumption); (case e2 => rfl); intro _ _)
  | with_reducible refine iteT ?_
  | with_reducible refine iteF ?_
  | ((with_reducible refine' if_yes ?e1 ?_); (case e1 => omega))
  | ((with_reducible refine' if_no ?e1 ?_); (case e1 => omega))
  | ((with_reducible refine' if_yesN ?e1 ?_); (case e1 => omega))
  | ((with_reducible refine' if_noN ?e1 ?_); (case e1 => omega))
  | ((with_reducible refine' RIx.t ?e1 ?e2 ?_); (case e1 => walk_at "hp"); (case e2 => rfl))
  | with_reducible refine se_andV ?_
  | with_reducible refine se_orV ?_
  | with_reducible refine se_notV ?_
  | with_reducible refine se_chain ?_
  | with_reducible refine se_sl ?_
  | with_reducible refine so_none ?_
  | with_reducible refine so_some ?_
  | with_reducible refine so_int ?_
  | with_reducible refine se_m1 ?_
  | with_reducible refine se_m0 ?_
  | with_reducible refine m_str ?_
  | with_reducible refine se_mkE ?_
  | ((with_reducible refine' mkE_now ?e1 ?_); (case e1 => assumption); intro _ _ _ _ _ _ _ _)
  | with_reducible refine st_raiseX ?_
  | ((with_reducible refine' mkX_now ?e1 ?_); (case e1 => assumption); intro _ _ _ _ _ _)
  | with_reducible refine st_par ?_
  | with_reducible refine par_mk ?_
  | ((with_reducible refine' st_aug ?e1 ?_); (case e1 => rfl))
  | ((with_reducible refine' RIsi.ty ?e1 ?e2 ?_); (case e1 => walk_at "kn"); (case e2 => decide))
  | with_reducible refine ris_non ?_
  | with_reducible refine ris_nonN ?_
  | with_reducible refine ris_bl ?_
  | with_reducible refine ris_blN ?_
  | with_reducible refine rin_sign ?_
  | with_reducible refine rni_sign ?_
  | ((with_reducible refine' RLen.str ?e1 ?_); (case e1 => first | exact small_ok (by omega) | exact small_ok (Nat.le_of_ble_eq_true rfl)))
  | ((with_reducible refine' RLen.lst ?e1 ?_); (case e1 => walk_at "hp"))
  | ((with_reducible refine' RLen.frz ?e1 ?_); (case e1 => walk_at "hp"))
  | ((with_reducible refine' RLen.tup ?e1 ?_); (case e1 => walk_at "hp"))
  | (with_reducible refine RMx.mk ?_; intro _ _ _ _)
  | (with_reducible refine RMn.mk ?_; intro _ _ _ _)
  | with_reducible refine RStarts.mk ?_
  | with_reducible refine RFind.mk ?_
  | with_reducible refine RInt.bl ?_
  | ((with_reducible refine' RAll.mk ?e1 ?_); (case e1 => walk_at "hp")))
local macro_rules | `(tactic| walk_at "sx") => `(tactic| repeat (walk_at "s1"; try dsimp only [List.set, Int.reduceToNat]))
local macro_rules | `(tactic| walk_at "go") => `(tactic| (dsimp only [cxOf, L2.start, List.map, List.length, List.replicate, Nat.reduceAdd, Nat.reduceSub, List.replicate, HAppend.hAppend, Append.append, List.append]; walk_at "sx"))
local macro_rules | `(tactic| walk_at "sxm") => `(tactic| repeat (first | ((with_reducible refine' mod_let ?e1 ?_); (case e1 => omega); intro _ _ _) | walk_at "s1"; try dsimp only [List.set, Int.reduceToNat]))
local macro_rules | `(tactic| walk_at "go0") => `(tactic| dsimp only [cxOf, L2.start, List.map, List.length, List.replicate, Nat.reduceAdd, Nat.reduceSub, List.replicate, HAppend.hAppend, Append.append, List.append])

local macro_rules | `(tactic| walk_at "s2") => `(tactic| first
  | walk_at "s1"
  | with_reducible refine se_call1 ?_
  | with_reducible refine se_callN ?_
  | with_reducible refine se_dnewK ?_
  | ((with_reducible refine' se_disp ?e1 ?_); (case e1 => assumption); intro _ _ _)
  | with_reducible refine sp_cons ?_
  | with_reducible refine sp_nil ?_
  | ((with_reducible refine' disp_now ?e1 ?e2 ?e3 ?_); (case e1 => assumption); (case e2 => rfl); (case e3 => exact Nat.le_of_ble_eq_true rfl); intro _ _ _ _ _)
  | ((with_reducible refine' RAdd.lst ?e1 ?e2 ?e3 ?_); (case e1 => walk_at "hp"); (case e2 => walk_at "hp"); (case e3 => exact small_ok (Nat.le_of_ble_eq_true rfl)))
  | ((with_reducible refine' RMul.lst ?e1 ?e2 ?e3 ?e4 ?_); (case e1 => walk_at "hp"); (case e2 => omega); (case e3 => omega); (case e4 => exact small_ok (Nat.le_of_ble_eq_true rfl)))
  | ((with_reducible refine' RStr.int ?e1 ?_); (case e1 => exact log2_small (by omega)))
  | ((with_reducible refine' RSl.str ?e1 ?_); (case e1 => first | exact small_ok (by omega) | exact small_ok (Nat.le_of_ble_eq_true rfl)))
  | ((with_reducible refine' RAdd.str ?e1 ?_); (case e1 => exact small_ok (by omega)))
  | ((with_reducible refine' take_now ?e1 ?e2 ?e3 ?e4 ?e5 ?_); (case e1 => walk_at "hi"); (case e2 => omega); (case e3 => omega); (case e4 => assumption); (case e5 => omega); intro _ _ _ _ _ _ _ _ _))
local macro_rules | `(tactic| walk_at "sy") => `(tactic| repeat (walk_at "s2"; try dsimp only [List.set, Int.reduceToNat]))
local macro_rules | `(tactic| walk_at "sz1") => `(tactic| first
  | ((with_reducible refine' rsl_some ?e1 ?e2 ?_); (case e1 => omega); (case e2 => assumption); intro _ _ _)
  | ((with_reducible refine' radd_some ?e1 ?e2 ?e3 ?_); (case e1 => omega); (case e2 => assumption); (case e3 => assumption); intro _ _ _)
  | ((with_reducible refine' rmul_some ?e1 ?e3 ?e4 ?e5 ?_); (case e1 => rfl); (case e3 => omega); (case e4 => omega); (case e5 => exact sg_of rfl); intro _ _ _)
  | walk_at "s2")
local macro_rules | `(tactic| walk_at "sz") => `(tactic| repeat (walk_at "sz1"; try dsimp only [List.set, Int.reduceToNat]))

local macro_rules | `(tactic| walk_at "s3") => `(tactic| first
  | walk_at "s2"
  | with_reducible refine se_fld ?_
  | with_reducible refine st_fld ?_
  | ((with_reducible refine' fld_mk ?e1 ?e2 ?e3 ?e4 ?_); (case e1 => walk_at "hp"); (case e2 => assumption); (case e3 => walk_at "mem"); (case e4 => rfl))
  | ((with_reducible refine' sfld_now ?e1 ?e2 ?e3 ?e4 ?_); (case e1 => walk_at "hi"); (case e2 => assumption); (case e3 => walk_at "mem"); (case e4 => exact Nat.lt_of_lt_of_le (Nat.lt_succ_self _) (Nat.le_of_ble_eq_true rfl)); intro _ _)
  | with_reducible refine se_meth ?_
  | with_reducible refine se_methN ?_
  | ((with_reducible refine' meth_mk ?e1 ?e2 ?_); (case e1 => walk_at "hp"); (case e2 => rfl))
  | with_reducible refine se_make ?_
  | with_reducible refine se_makeN ?_
  | ((with_reducible refine' make_now ?e1 ?_); (case e1 => assumption); intro _ _ _ _)
  | with_reducible refine se_fmt ?_
  | ((with_reducible refine' RFmt.str ?e1 ?_); (case e1 => omega))
  | ((with_reducible refine' RFmt.int ?e1 ?_); (case e1 => exact log2_small (by omega)))
  | with_reducible refine sj_nil ?_
  | with_reducible refine sj_cons ?_
  | ((with_reducible refine' js_mk ?e1 ?_); (case e1 => omega))
  | ((with_reducible refine' and_on ?e1 ?_); (case e1 => exact small_ok (by simp only [len_app]; omega))))
local macro_rules | `(tactic| walk_at "sc") => `(tactic| repeat (walk_at "s3"; try dsimp only [List.set, Int.reduceToNat]))

local macro_rules | `(tactic| walk_at "s4") => `(tactic| first
  | walk_at "s3"
  | with_reducible refine se_bm ?_
  | with_reducible refine se_bm0 ?_
  | ((with_reducible refine' bm_ty ?e1 ?_); (case e1 => walk_at "hp"))
  | ((with_reducible refine' app_now ?e1 ?e2 ?_); (case e1 => walk_at "hi"); (case e2 => first | omega | exact Nat.lt_of_lt_of_le (Nat.lt_succ_self _) (Nat.le_of_ble_eq_true rfl)); intro _ _))
local macro_rules | `(tactic| walk_at "sd") => `(tactic| repeat (walk_at "s4"; try dsimp only [List.set, Int.reduceToNat]))

local macro_rules | `(tactic| walk_at "s5") => `(tactic| first
  | with_reducible refine rne_same ?_
  | with_reducible refine req_same ?_
  | walk_at "s4"
  | ((with_reducible refine' if_kT ?e1 ?_); (case e1 => first | assumption | rfl))
  | ((with_reducible refine' if_kF ?e1 ?_); (case e1 => first | assumption | rfl))
  | ((with_reducible refine' if_nkT ?e1 ?_); (case e1 => first | assumption | rfl))
  | ((with_reducible refine' if_nkF ?e1 ?_); (case e1 => first | assumption | rfl))
  | ((with_reducible refine' if_tagF ?e1 ?_); (case e1 => rfl))
  | ((with_reducible refine' if_tagN ?e1 ?_); (case e1 => rfl))
  | ((with_reducible refine' if_yes ?e1 ?_); (case e1 => with_reducible rfl))
  | ((with_reducible refine' if_yesN ?e1 ?_); (case e1 => with_reducible rfl))
  | with_reducible refine if_notT ?_
  | with_reducible refine if_notF ?_
  | with_reducible refine it_zip ?_
  | with_reducible refine it_enum ?_
  | with_reducible refine it_tup ?_
  | ((with_reducible refine' zip_mk ?e1 ?e2 ?_); (case e1 => walk_at "hp"); (case e2 => walk_at "hp"))
  | ((with_reducible refine' enum_mk ?e1 ?_); (case e1 => walk_at "hp"))
  | ((with_reducible refine' tupI_mk ?e1 ?_); (case e1 => walk_at "hp"))
  | with_reducible refine st_try ?_
  | with_reducible refine se_by ?_
  | ((with_reducible refine' RTupO.l ?e1 ?_); (case e1 => walk_at "hp"))
  | ((with_reducible refine' RListO.l ?e1 ?_); (case e1 => walk_at "hp"))
  | ((with_reducible refine' RListO.t ?e1 ?_); (case e1 => walk_at "hp"))
  | ((with_reducible refine' RListM.l ?e1 ?_); (case e1 => walk_at "hp")))
local macro_rules | `(tactic| walk_at "se") => `(tactic| repeat (walk_at "s5"; try dsimp only [List.set, Int.reduceToNat]))
local macro_rules | `(tactic| walk_at "sl") => `(tactic| first
  | exact List.Sublist.refl _
  | (refine List.Sublist.cons₂ _ ?_; walk_at "sl")
  | (refine List.Sublist.cons _ ?_; walk_at "sl"))
local macro_rules | `(tactic| walk_at "keep") => `(tactic| exact HI.sublist (by assumption) (by walk_at "sl"))

local macro_rules | `(tactic| walk_at "s6") => `(tactic| first
  | walk_at "s5"
  | with_reducible refine se_dget2 ?_
  | with_reducible refine ip_mk ?_
  | with_reducible refine se_dnewM ?_
  | with_reducible refine se_dget1 ?_
  | ((with_reducible refine' dg_mk ?e1 ?_); (case e1 => walk_at "hp"))
  | ((with_reducible refine' dq_i ?e1 ?_); (case e1 => walk_at "hp"))
  | ((with_reducible refine' dq_s ?e1 ?_); (case e1 => walk_at "hp"))
  | with_reducible refine se_dsub ?_
  | with_reducible refine se_din ?_
  | with_reducible refine se_dni ?_
  | ((with_reducible refine' di_i ?e1 ?_); (case e1 => walk_at "hp"))
  | ((with_reducible refine' di_s ?e1 ?_); (case e1 => walk_at "hp"))
  | with_reducible refine st_dput ?_
  | ((with_reducible refine' dp_i ?e1 ?e2 ?_); (case e1 => walk_at "hi"); (case e2 => omega); intro _ _)
  | ((with_reducible refine' dp_s ?e1 ?e2 ?_); (case e1 => walk_at "hi"); (case e2 => omega); intro _ _)
  | with_reducible refine se_dpop1 ?_
  | with_reducible refine it_seq ?_
  | ((with_reducible refine' seq_l ?e1 ?_); (case e1 => walk_at "hp"))
  | ((with_reducible refine' seq_t ?e1 ?_); (case e1 => walk_at "hp")))
local macro_rules | `(tactic| walk_at "sg") => `(tactic| repeat (walk_at "s6"; try dsimp only [List.set, Int.reduceToNat]))

local macro_rules | `(tactic| walk_at "s7") => `(tactic| first
  | walk_at "s6"
  | with_reducible refine st_augS ?_
  | with_reducible refine se_revL ?_
  | ((with_reducible refine' rv_mk ?e1 ?_); (case e1 => walk_at "hp"))
  | ((with_reducible refine' RGetL.l ?e1 ?e2 ?e3 ?_); (case e1 => walk_at "hp"); (case e2 => omega); (case e3 => assumption)))
local macro_rules | `(tactic| walk_at "sh") => `(tactic| repeat (walk_at "s7"; try dsimp only [List.set, Int.reduceToNat]))

local macro_rules | `(tactic| walk_at "s8") => `(tactic| first
  | walk_at "s7"
  | with_reducible refine se_fmtO ?_)
local macro_rules | `(tactic| walk_at "si") => `(tactic| repeat (walk_at "s8"; try dsimp only [List.set, Int.reduceToNat]))

local macro_rules | `(tactic| walk_at "hi") => `(tactic| exact HI.up4 (by assumption))
local macro_rules | `(tactic| walk_at "s9") => `(tactic| first
  | ((with_reducible refine' disp_nowM ?e1 ?e2 ?e3 ?_); (case e1 => assumption); (case e2 => rfl); (case e3 => exact Nat.le_of_ble_eq_true rfl); intro _ _)
  | walk_at "s8"
  | with_reducible refine st_par3 ?_
  | with_reducible refine par3_mk ?_
  | with_reducible refine se_mkQ ?_
  | ((with_reducible refine' mkQ_now ?e1 ?_); (case e1 => assumption); intro _ _ _ _ _ _ _ _ _ _)
  | ((with_reducible refine' se_dispM ?e1 ?_); (case e1 => assumption); intro _ _ _))
local macro_rules | `(tactic| walk_at "sj") => `(tactic| repeat (walk_at "s9"; try dsimp only [List.set, Int.reduceToNat]))

local macro_rules | `(tactic| walk_at "s11") => `(tactic| first
  | walk_at "s9"
  | with_reducible refine it_enumF ?_
  | ((with_reducible refine' enumF_mk ?e1 ?e2 ?_); (case e1 => walk_at "hp"); (case e2 => decide))
  | with_reducible refine it_rng3 ?_
  | ((with_reducible refine' rng3_dn ?e1 ?_); (case e1 => omega))
  | with_reducible refine it_items ?_)
local macro_rules | `(tactic| walk_at "sm") => `(tactic| repeat (walk_at "s11"; try dsimp only [List.set, Int.reduceToNat]))

local macro_rules | `(tactic| walk_at "s12") => `(tactic| first
  | walk_at "s11"
  | with_reducible refine se_lrg ?_
  | ((with_reducible refine' lrg_mk ?e1 ?_); (case e1 => exact RgOk.of_le (by omega) (by omega) (by omega) (by omega))))
local macro_rules | `(tactic| walk_at "sn") => `(tactic| repeat (walk_at "s12"; try dsimp only [List.set, Int.reduceToNat]))

open XG
/-! ### things, refusals -/
inductive Thg (K : PySem.W.Frag) (D : Hp) : Cells → V → Prop
  | dat {v : V} {k : Knd} (kn : Kn K D v k) (nl : k.is "list" = false) (nd : k.is "dict" = false) (s : ShS K D v 20000 10) : Thg K D [] v
  | lst {p : Addr} {xs : List V} (s : ∀ x ∈ xs, ShS K D x 2000 8) (l : xs.length ≤ 2) : Thg K D [(p, .lst xs)] (.ref p)
  | dict {p : Addr} {kvs : List (Key × V)} (s : ∀ q ∈ kvs, SmK q.1 ∧ ShS K D q.2 2000 8) (l : kvs.length ≤ 1) : Thg K D [(p, .dK kvs)] (.ref p)
theorem Thg.mono {K : PySem.W.Frag} {D D' : Hp} {C : Cells} {v : V} (h : Thg K D C v) (x : Ex D D') : Thg K D' C v := by
  cases h with
  | dat kn a b s => exact .dat (kn.mono x) a b (s.mono x)
  | lst s l => exact .lst (fun v hv => (s v hv).mono x) l
  | dict s l => exact .dict (fun v hv => ⟨(s v hv).1, (s v hv).2.mono x⟩) l
def spThing (K : PySem.W.Frag) : Sp := fun vs H Q _ => ∃ (b : Addr) (R : Cells) (D : Hp) (x y z : Int) (n : Nat), vs = [.ref b] ∧ HI H ((b, bx x y z) :: R) D ∧ BoxOk n x y z ∧ n + 100 < 1000000 ∧
  ∀ v C x' y' z' n' H' D', HI H' ((b, bx x' y' z') :: (C ++ R)) D' → Ex D D' → BoxOk n' x' y' z' → n' ≤ n + 3 → Thg K D' C v → Q v H'
set_option maxHeartbeats 1000000 in
theorem ok_l_thing {P : Program} {w : World} {K : PySem.W.Frag} {mg : Str → Option Value} {base : Heap} (T : Tx K mg) : FnG P w K mg base 4 (a_l_thing K) ["box"] (spThing K) := by
  refine T.f_l_thing.ok sc_l_thing (fun vs H Q E h => ?_) (fun cdv A outer s H vs Q E hgu hr h => ⟨_, (pss_cons (ps_set (i := 1) sc_l_thing.nd rfl (Or.inl rfl) (pe_lst (pa_cons pe_non (pa_cons pe_bl (pa_cons (pe_un un_neg pe_int) (pa_cons (pe_op op_pow pe_int pe_int) (pa_cons pe_str (pa_cons pe_str (pa_cons (pe_lstM pa_nil) (pa_cons (pe_lstM (pa_cons pe_str (pa_cons (pe_lst (pa_cons pe_int pa_nil)) pa_nil))) (pa_cons (pe_dnewM) (pa_cons (dispM (pe_disp (pps_cons pe_str (pe_lst (pa_cons pe_int pa_nil)) pps_nil) (by rfl) (by rfl) (fun z => by cases z) (by decide))) (pa_cons (pe_tup (pa_cons pe_str (pa_cons (pe_tup pa_nil) pa_nil))) (pa_cons (XG.pe_mkG T.x_NoName (ok_NoName_init T) T.b_NoName_init (hr.mono (by decide)) rfl (pa_cons pe_str pa_nil)) (pa_cons pe_int pa_nil)))))))))))))))
 (pss_one (ps_ret (pe_ix ix_U (pv 1) (ge_call (ok_l_take T) hgu (hr.mono (by decide)) rfl T.g_l_take T.k_l_take T.b_l_take .nil (fun _ => pass_takes (takes_of rfl rfl rfl rfl)) (pa_cons (pv 0) (pa_cons pe_int pa_nil))) (fun _ _ => rfl))))), ?_⟩)
  · obtain ⟨b, R, D, x, y, z, n, rfl, _⟩ := h
    rfl
  · obtain ⟨b, R, D, x, y, z, n, rfl, hI, hb, hn, go⟩ := h
    walk_at "go"
    walk_at "sn"
    rename_i c1 H1 hI1 pi H2 D2 hI2 xx2 ei c2 H3 hI3 c3 H4 hI4 c4 H5 hI5 pj H6 D6 hI6 xx6 ej H7 hI7 pe H8 D8 hI8 xx8 ee pb H9 D9 hI9 xx9 eb
    refine se_mkG ?_
    walk_at "sn"
    refine mkG_now hI9 (fun ax dx tx HX DX hX xX eX edX etX => ?_)
    walk_at "sn"
    rename_i so HS DS hS xS eS r x2 y2 z2 H10 hI10 bo10 r0 r1
    have xeS : Ex D8 DS := xx9.trans (xX.trans xS)
    have xjS : Ex D6 DS := xx8.trans xeS
    have xiS : Ex D2 DS := xx6.trans xjS
    have xDS : Ex D DS := xx2.trans xiS
    have hc1 := HI.front (A := [_, _, _, _]) hI10
    have hc2 := HI.front (A := [_, _, _]) hI10
    have hc3 := HI.front (A := [_, _]) hI10
    have hc4 := HI.front (A := [_]) hI10
    have hc0 : HI H10 ((b, bx x2 y2 z2) :: ([] ++ R)) DS := hI10.sublist ((List.sublist_append_right [_, _, _, _] R).cons₂ _)
    have mk : ∀ {c : Addr × HO} {Y : Cells}, HI H10 (c :: (b, bx x2 y2 z2) :: Y) DS → R.Sublist Y → HI H10 ((b, bx x2 y2 z2) :: ([c] ++ R)) DS := fun h s => HI.swap (h.sublist ((s.cons₂ _).cons₂ _))
    have dt : ∀ {v : V} {k : Knd}, Kn K DS v k → k.is "list" = false → k.is "dict" = false → ShS K DS v 20000 10 → ∃ C, HI H10 ((b, bx x2 y2 z2) :: (C ++ R)) DS ∧ Thg K DS C v := fun kn a b s => ⟨[], hc0, .dat kn a b s⟩
    refine RIx.pick (P := fun v => ∃ C, HI H10 ((b, bx x2 y2 z2) :: (C ++ R)) DS ∧ Thg K DS C v) (hI10.dat eS) (all_c (dt .non rfl rfl (ShS.non.le (by decide) (by decide))) (all_c (dt (.bl _) rfl rfl ((ShS.bl _).le (by decide) (by decide))) (all_c (dt (.int _) rfl rfl ((ShS.int (by decide)).le (by decide) (by decide))) (all_c (dt (.int _) rfl rfl ((ShS.int (by decide)).le (by decide) (by decide)))
      (all_c (dt (.str _) rfl rfl ((ShS.str (sg_of rfl)).le (by decide) (by decide))) (all_c (dt (.str _) rfl rfl ((ShS.str (sg_of rfl)).le (by decide) (by decide)))
      (all_c ⟨[(c1, .lst [])], mk hc1 (List.sublist_append_right [_, _, _] R), .lst all_n (by decide)⟩
      (all_c ⟨[(c2, _)], mk hc2 (List.sublist_append_right [_, _, _] R), .lst (all_c ((ShS.str (sg_of rfl)).le (by decide) (by decide)) (all_c ((ShS.lst (n := 31) (k := 0) (xiS _ _ ei) (ShLs.of (all_c (ShS.int (by decide)) all_n))).le (by decide) (by decide)) all_n)) (by simp)⟩
      (all_c ⟨[(c3, .dK [])], mk hc3 (List.sublist_append_right [_, _, _] R), .dict all_n (by decide)⟩
      (all_c ⟨[(c4, .dK [(Sum.inr (Str.ofString "a"), V.ref pj)])], mk hc4 (List.sublist_append_right [_, _, _] R), .dict (all_c ⟨⟨sg_of rfl, by decide⟩, (ShS.lst (n := 31) (k := 0) (xjS _ _ ej) (ShLs.of (all_c (ShS.int (by decide)) all_n))).le (by decide) (by decide)⟩ all_n) (by simp)⟩
      (all_c (dt (.tup ((xX.trans xS) _ _ eb)) rfl rfl ((ShS.tup (n := 100) (k := 1) ((xX.trans xS) _ _ eb) (ShLs.of (all_c ((ShS.str (sg_of rfl)).le (by decide) (by decide)) (all_c ((ShS.tup (n := 0) (k := 0) (xeS _ _ ee) ShLs.nil).le (by decide) (by decide)) all_n)))).le (by simp) (by decide)))
      (all_c (dt (.excq (xS _ _ eX) (xS _ _ edX) T.x_NoName.E T.six_NoName) rfl rfl ((ShS.exc (xS _ _ eX) (xS _ _ etX) T.q_NoName (sg_of rfl) (by decide)).le (by decide) (by decide))) (all_c (dt (.int _) rfl rfl ((ShS.int (by decide)).le (by decide) (by decide))) all_n))))))))))))) r0 r1 (fun v hv => ?_)
    obtain ⟨C, hC, th⟩ := hv
    exact go v C _ _ _ _ _ _ hC xDS bo10 (by omega) th
def nms : List Str := ["NoName", "NoNumber", "NoSort", "NoYear", "NoWeek", "NoRow", "NoStay", "NoRests", "NoList", "Doubled", "TooMany", "NotThere"]
abbrev cl (K : PySem.W.Frag) (w : Int) : Addr := He.ga K (nms.getD w.toNat "")
def spFirst (K : PySem.W.Frag) : Sp := fun vs H Q _ => ∃ (w : Int) (v : V) (R : Cells) (D : Hp), vs = [.int w, v] ∧ HI H R D ∧ 0 ≤ w ∧ w < 8 ∧
  ∀ a d t1 H' D', HI H' R D' → Ex D D' → D' a = some (exq a (cl K w) (some d) t1) → D' d = some (exd d [("found", v)]) → Q (.ref a) H'
set_option maxHeartbeats 1000000 in
theorem ok_l_first {P : Program} {w : World} {K : PySem.W.Frag} {mg : Str → Option Value} {base : Heap} (T : Tx K mg) : FnG P w K mg base 4 (a_l_first K) ["which", "one"] (spFirst K) := by
  refine T.f_l_first.ok sc_l_first (fun vs H Q E h => ?_) (fun cdv A outer s H vs Q E hgu hr h => ⟨_, (pss_cons (ps_if (pt_cmpR (op_eqU hr.units) (pv 0) pe_int (nomark _)) (pss_one (ps_ret (XG.pe_mkG T.x_NoName (ok_NoName_init T) T.b_NoName_init (hr.mono (by decide)) rfl (pa_cons (pv 1) pa_nil)))) pss_nil)
 (pss_cons (ps_if (pt_cmpR (op_eqU hr.units) (pv 0) pe_int (nomark _)) (pss_one (ps_ret (XG.pe_mkG T.x_NoNumber (ok_NoNumber_init T) T.b_NoNumber_init (hr.mono (by decide)) rfl (pa_cons (pv 1) pa_nil)))) pss_nil)
 (pss_cons (ps_if (pt_cmpR (op_eqU hr.units) (pv 0) pe_int (nomark _)) (pss_one (ps_ret (XG.pe_mkG T.x_NoSort (ok_NoSort_init T) T.b_NoSort_init (hr.mono (by decide)) rfl (pa_cons (pv 1) pa_nil)))) pss_nil)
 (pss_cons (ps_if (pt_cmpR (op_eqU hr.units) (pv 0) pe_int (nomark _)) (pss_one (ps_ret (XG.pe_mkG T.x_NoYear (ok_NoYear_init T) T.b_NoYear_init (hr.mono (by decide)) rfl (pa_cons (pv 1) pa_nil)))) pss_nil)
 (pss_cons (ps_if (pt_cmpR (op_eqU hr.units) (pv 0) pe_int (nomark _)) (pss_one (ps_ret (XG.pe_mkG T.x_NoWeek (ok_NoWeek_init T) T.b_NoWeek_init (hr.mono (by decide)) rfl (pa_cons (pv 1) pa_nil)))) pss_nil)
 (pss_cons (ps_if (pt_cmpR (op_eqU hr.units) (pv 0) pe_int (nomark _)) (pss_one (ps_ret (XG.pe_mkGK T.x_NoRow (ok_NoRow_init T) T.kb_NoRow_init_1_found (hr.mono (by decide)) rfl (pk_cons (pv 1) pk_nil)))) pss_nil)
 (pss_one (ps_ret (pe_ifExp (pt_cmpR (op_eqU hr.units) (pv 0) pe_int (nomark _)) (XG.pe_mkG T.x_NoStay (ok_NoStay_init T) T.b_NoStay_init (hr.mono (by decide)) rfl (pa_cons (pv 1) pa_nil)) (XG.pe_mkG T.x_NoRests (ok_NoRests_init T) T.b_NoRests_init (hr.mono (by decide)) rfl (pa_cons (pv 1) pa_nil))))))))))), ?_⟩)
  · obtain ⟨w, v, R, D, rfl, _⟩ := h
    rfl
  · obtain ⟨w, v, R, D, rfl, hI, w0, w8, go⟩ := h
    have hw : w = 0 ∨ w = 1 ∨ w = 2 ∨ w = 3 ∨ w = 4 ∨ w = 5 ∨ w = 6 ∨ w = 7 := by omega
    walk_at "go"
    rcases hw with rfl | rfl | rfl | rfl | rfl | rfl | rfl | rfl
    · walk_at "sn"
      refine se_mkG ?_
      walk_at "sn"
      refine mkG_now hI (fun a d t1 H1 D1 hI1 x1 ea ed et => ?_)
      exact go a d t1 _ _ hI1 x1 ea ed
    · walk_at "sn"
      refine se_mkG ?_
      walk_at "sn"
      refine mkG_now hI (fun a d t1 H1 D1 hI1 x1 ea ed et => ?_)
      exact go a d t1 _ _ hI1 x1 ea ed
    · walk_at "sn"
      refine se_mkG ?_
      walk_at "sn"
      refine mkG_now hI (fun a d t1 H1 D1 hI1 x1 ea ed et => ?_)
      exact go a d t1 _ _ hI1 x1 ea ed
    · walk_at "sn"
      refine se_mkG ?_
      walk_at "sn"
      refine mkG_now hI (fun a d t1 H1 D1 hI1 x1 ea ed et => ?_)
      exact go a d t1 _ _ hI1 x1 ea ed
    · walk_at "sn"
      refine se_mkG ?_
      walk_at "sn"
      refine mkG_now hI (fun a d t1 H1 D1 hI1 x1 ea ed et => ?_)
      exact go a d t1 _ _ hI1 x1 ea ed
    · walk_at "sn"
      refine se_mkG ?_
      walk_at "sn"
      refine mkG_now hI (fun a d t1 H1 D1 hI1 x1 ea ed et => ?_)
      exact go a d t1 _ _ hI1 x1 ea ed
    · walk_at "sn"
      refine se_mkG ?_
      walk_at "sn"
      refine mkG_now hI (fun a d t1 H1 D1 hI1 x1 ea ed et => ?_)
      exact go a d t1 _ _ hI1 x1 ea ed
    · walk_at "sn"
      refine se_mkG ?_
      walk_at "sn"
      refine mkG_now hI (fun a d t1 H1 D1 hI1 x1 ea ed et => ?_)
      exact go a d t1 _ _ hI1 x1 ea ed
theorem first_use {K : PySem.W.Frag} {w : Int} {v : V} {R : Cells} {D H : Hp} {Q : VK} {E : XK} (hI : HI H R D) (w0 : 0 ≤ w) (w8 : w < 8)
  (q : ∀ a d t1 H' D', HI H' R D' → Ex D D' → D' a = some (exq a (cl K w) (some d) t1) → D' d = some (exd d [("found", v)]) → Q (.ref a) H') : spFirst K [.int w, v] H Q E := ⟨w, v, R, D, rfl, hI, w0, w8, q⟩
def spMadeX (K : PySem.W.Frag) : Sp := fun vs H Q _ => ∃ (w : Int) (v : V) (R : Cells) (D : Hp), vs = [.int w, v] ∧ HI H R D ∧ 0 ≤ w ∧ w < 12 ∧
  ∀ p a d t1 f H' D', HI H' R D' → Ex D D' → D' p = some (.tup [.ref a, v]) → D' a = some (exq a (cl K w) (some d) t1) → D' d = some (exd d [(f, v)]) → Q (.ref p) H'
set_option maxHeartbeats 1000000 in
theorem ok_l_made {P : Program} {w : World} {K : PySem.W.Frag} {mg : Str → Option Value} {base : Heap} (T : Tx K mg) : FnG P w K mg base 5 (a_l_made K) ["which", "one"] (spMadeX K) := by
  refine T.f_l_made.ok sc_l_made (fun vs H Q E h => ?_) (fun cdv A outer s H vs Q E hgu hr h => ⟨_, (pss_cons (ps_if (pt_cmpR op_lt (pv 0) pe_int (nomark _)) (pss_cons (ps_set (i := 2) sc_l_made.nd rfl (Or.inl rfl) (ge_call (ok_l_first T) hgu (hr.mono (by decide)) rfl T.g_l_first T.k_l_first T.b_l_first .nil (fun _ => pass_takes (takes_of rfl rfl rfl rfl)) (pa_cons (pv 0) (pa_cons (pv 1) pa_nil))))
 (pss_one (ps_ret (pe_tup (pa_cons (pv 2) (pa_cons (XG.pe_fldX (pv 2)) pa_nil)))))) pss_nil)
 (pss_cons (ps_if (pt_cmpR (op_eqU hr.units) (pv 0) pe_int (nomark _)) (pss_cons (ps_set (i := 3) sc_l_made.nd rfl (Or.inl rfl) (XG.pe_mkG T.x_NoList (ok_NoList_init T) T.b_NoList_init (hr.mono (by decide)) rfl (pa_cons (pv 1) pa_nil)))
 (pss_one (ps_ret (pe_tup (pa_cons (pv 3) (pa_cons (XG.pe_fldX (pv 3)) pa_nil)))))) pss_nil)
 (pss_cons (ps_if (pt_cmpR (op_eqU hr.units) (pv 0) pe_int (nomark _)) (pss_cons (ps_set (i := 4) sc_l_made.nd rfl (Or.inl rfl) (XG.pe_mkG T.x_Doubled (ok_Doubled_init T) T.b_Doubled_init (hr.mono (by decide)) rfl (pa_cons (pv 1) pa_nil)))
 (pss_one (ps_ret (pe_tup (pa_cons (pv 4) (pa_cons (XG.pe_fldX (pv 4)) pa_nil)))))) pss_nil)
 (pss_cons (ps_if (pt_cmpR (op_eqU hr.units) (pv 0) pe_int (nomark _)) (pss_cons (ps_set (i := 5) sc_l_made.nd rfl (Or.inl rfl) (XG.pe_mkGK T.x_TooMany (ok_TooMany_init T) T.kb_TooMany_init_1_many (hr.mono (by decide)) rfl (pk_cons (pv 1) pk_nil)))
 (pss_one (ps_ret (pe_tup (pa_cons (pv 5) (pa_cons (XG.pe_fldX (pv 5)) pa_nil)))))) pss_nil)
 (pss_cons (ps_set (i := 6) sc_l_made.nd rfl (Or.inl rfl) (XG.pe_mkG T.x_NotThere (ok_NotThere_init T) T.b_NotThere_init (hr.mono (by decide)) rfl (pa_cons (pv 1) pa_nil)))
 (pss_one (ps_ret (pe_tup (pa_cons (pv 6) (pa_cons (XG.pe_fldX (pv 6)) pa_nil)))))))))), ?_⟩)
  · obtain ⟨w, v, R, D, rfl, _⟩ := h
    rfl
  · obtain ⟨w, v, R, D, rfl, hI, w0, w12, go⟩ := h
    have hw : w = 0 ∨ w = 1 ∨ w = 2 ∨ w = 3 ∨ w = 4 ∨ w = 5 ∨ w = 6 ∨ w = 7 ∨ w = 8 ∨ w = 9 ∨ w = 10 ∨ w = 11 := by omega
    walk_at "go"
    rcases hw with rfl | rfl | rfl | rfl | rfl | rfl | rfl | rfl | rfl | rfl | rfl | rfl
    · walk_at "sn"
      refine first_use hI (by decide) (by decide) (fun a d t1 H1 D1 hI1 x1 ea ed => ?_)
      walk_at "sn"
      refine se_fldX ?_
      walk_at "sn"
      refine ⟨_, _, _, _, _, rfl, hI1.dat ea, hI1.dat ed, T.x_NoName.E, T.x_NoName.no, ?_⟩
      walk_at "sn"
      rename_i p H2 D2 hI2 x2 e2
      exact go p a d t1 _ _ _ hI2 (x1.trans x2) e2 (x2 _ _ ea) (x2 _ _ ed)
    · walk_at "sn"
      refine first_use hI (by decide) (by decide) (fun a d t1 H1 D1 hI1 x1 ea ed => ?_)
      walk_at "sn"
      refine se_fldX ?_
      walk_at "sn"
      refine ⟨_, _, _, _, _, rfl, hI1.dat ea, hI1.dat ed, T.x_NoNumber.E, T.x_NoNumber.no, ?_⟩
      walk_at "sn"
      rename_i p H2 D2 hI2 x2 e2
      exact go p a d t1 _ _ _ hI2 (x1.trans x2) e2 (x2 _ _ ea) (x2 _ _ ed)
    · walk_at "sn"
      refine first_use hI (by decide) (by decide) (fun a d t1 H1 D1 hI1 x1 ea ed => ?_)
      walk_at "sn"
      refine se_fldX ?_
      walk_at "sn"
      refine ⟨_, _, _, _, _, rfl, hI1.dat ea, hI1.dat ed, T.x_NoSort.E, T.x_NoSort.no, ?_⟩
      walk_at "sn"
      rename_i p H2 D2 hI2 x2 e2
      exact go p a d t1 _ _ _ hI2 (x1.trans x2) e2 (x2 _ _ ea) (x2 _ _ ed)
    · walk_at "sn"
      refine first_use hI (by decide) (by decide) (fun a d t1 H1 D1 hI1 x1 ea ed => ?_)
      walk_at "sn"
      refine se_fldX ?_
      walk_at "sn"
      refine ⟨_, _, _, _, _, rfl, hI1.dat ea, hI1.dat ed, T.x_NoYear.E, T.x_NoYear.no, ?_⟩
      walk_at "sn"
      rename_i p H2 D2 hI2 x2 e2
      exact go p a d t1 _ _ _ hI2 (x1.trans x2) e2 (x2 _ _ ea) (x2 _ _ ed)
    · walk_at "sn"
      refine first_use hI (by decide) (by decide) (fun a d t1 H1 D1 hI1 x1 ea ed => ?_)
      walk_at "sn"
      refine se_fldX ?_
      walk_at "sn"
      refine ⟨_, _, _, _, _, rfl, hI1.dat ea, hI1.dat ed, T.x_NoWeek.E, T.x_NoWeek.no, ?_⟩
      walk_at "sn"
      rename_i p H2 D2 hI2 x2 e2
      exact go p a d t1 _ _ _ hI2 (x1.trans x2) e2 (x2 _ _ ea) (x2 _ _ ed)
    · walk_at "sn"
      refine first_use hI (by decide) (by decide) (fun a d t1 H1 D1 hI1 x1 ea ed => ?_)
      walk_at "sn"
      refine se_fldX ?_
      walk_at "sn"
      refine ⟨_, _, _, _, _, rfl, hI1.dat ea, hI1.dat ed, T.x_NoRow.E, T.x_NoRow.no, ?_⟩
      walk_at "sn"
      rename_i p H2 D2 hI2 x2 e2
      exact go p a d t1 _ _ _ hI2 (x1.trans x2) e2 (x2 _ _ ea) (x2 _ _ ed)
    · walk_at "sn"
      refine first_use hI (by decide) (by decide) (fun a d t1 H1 D1 hI1 x1 ea ed => ?_)
      walk_at "sn"
      refine se_fldX ?_
      walk_at "sn"
      refine ⟨_, _, _, _, _, rfl, hI1.dat ea, hI1.dat ed, T.x_NoStay.E, T.x_NoStay.no, ?_⟩
      walk_at "sn"
      rename_i p H2 D2 hI2 x2 e2
      exact go p a d t1 _ _ _ hI2 (x1.trans x2) e2 (x2 _ _ ea) (x2 _ _ ed)
    · walk_at "sn"
      refine first_use hI (by decide) (by decide) (fun a d t1 H1 D1 hI1 x1 ea ed => ?_)
      walk_at "sn"
      refine se_fldX ?_
      walk_at "sn"
      refine ⟨_, _, _, _, _, rfl, hI1.dat ea, hI1.dat ed, T.x_NoRests.E, T.x_NoRests.no, ?_⟩
      walk_at "sn"
      rename_i p H2 D2 hI2 x2 e2
      exact go p a d t1 _ _ _ hI2 (x1.trans x2) e2 (x2 _ _ ea) (x2 _ _ ed)
    · walk_at "sn"
      refine se_mkG ?_
      walk_at "sn"
      refine mkG_now hI (fun a d t1 H1 D1 hI1 x1 ea ed et => ?_)
      walk_at "sn"
      refine se_fldX ?_
      walk_at "sn"
      refine ⟨_, _, _, _, _, rfl, hI1.dat ea, hI1.dat ed, T.x_NoList.E, T.x_NoList.no, ?_⟩
      walk_at "sn"
      rename_i p H2 D2 hI2 x2 e2
      exact go p a d t1 _ _ _ hI2 (x1.trans x2) e2 (x2 _ _ ea) (x2 _ _ ed)
    · walk_at "sn"
      refine se_mkG ?_
      walk_at "sn"
      refine mkG_now hI (fun a d t1 H1 D1 hI1 x1 ea ed et => ?_)
      walk_at "sn"
      refine se_fldX ?_
      walk_at "sn"
      refine ⟨_, _, _, _, _, rfl, hI1.dat ea, hI1.dat ed, T.x_Doubled.E, T.x_Doubled.no, ?_⟩
      walk_at "sn"
      rename_i p H2 D2 hI2 x2 e2
      exact go p a d t1 _ _ _ hI2 (x1.trans x2) e2 (x2 _ _ ea) (x2 _ _ ed)
    · walk_at "sn"
      refine se_mkG ?_
      walk_at "sn"
      refine mkG_now hI (fun a d t1 H1 D1 hI1 x1 ea ed et => ?_)
      walk_at "sn"
      refine se_fldX ?_
      walk_at "sn"
      refine ⟨_, _, _, _, _, rfl, hI1.dat ea, hI1.dat ed, T.x_TooMany.E, T.x_TooMany.no, ?_⟩
      walk_at "sn"
      rename_i p H2 D2 hI2 x2 e2
      exact go p a d t1 _ _ _ hI2 (x1.trans x2) e2 (x2 _ _ ea) (x2 _ _ ed)
    · walk_at "sn"
      refine se_mkG ?_
      walk_at "sn"
      refine mkG_now hI (fun a d t1 H1 D1 hI1 x1 ea ed et => ?_)
      walk_at "sn"
      refine se_fldX ?_
      walk_at "sn"
      refine ⟨_, _, _, _, _, rfl, hI1.dat ea, hI1.dat ed, T.x_NotThere.E, T.x_NotThere.no, ?_⟩
      walk_at "sn"
      rename_i p H2 D2 hI2 x2 e2
      exact go p a d t1 _ _ _ hI2 (x1.trans x2) e2 (x2 _ _ ea) (x2 _ _ ed)
theorem madeX_use {K : PySem.W.Frag} {w : Int} {v : V} {R : Cells} {D H : Hp} {Q : VK} {E : XK} (hI : HI H R D) (w0 : 0 ≤ w) (w8 : w < 12)
  (q : ∀ p a d t1 f H' D', HI H' R D' → Ex D D' → D' p = some (.tup [.ref a, v]) → D' a = some (exq a (cl K w) (some d) t1) → D' d = some (exd d [(f, v)]) → Q (.ref p) H') : spMadeX K [.int w, v] H Q E := ⟨w, v, R, D, rfl, hI, w0, w8, q⟩
end Wk

set_option maxRecDepth 100000
set_option maxHeartbeats 4000000
namespace Wk
open PySem PySem.Spec PyProof.Rows L2
local macro_rules | `(tactic| walk_at "mem") => `(tactic| first
  | exact List.mem_cons_self ..
  | exact List.mem_cons_of_mem _ (List.mem_cons_self ..)
  | exact List.mem_cons_of_mem _ (List.mem_cons_of_mem _ (List.mem_cons_self ..))
  | exact List.mem_cons_of_mem _ (List.mem_cons_of_mem _ (List.mem_cons_of_mem _ (List.mem_cons_self ..)))
  | exact List.mem_cons_of_mem _ (List.mem_cons_of_mem _ (List.mem_cons_of_mem _ (List.mem_cons_of_mem _ (List.mem_cons_self ..)))))
local macro_rules | `(tactic| walk_at "dat") => `(tactic| first
  | assumption
  | (refine Ex.of ?_ (by assumption); walk_at "dat"))
local macro_rules | `(tactic| walk_at "ex") => `(tactic| first
  | assumption
  | exact Ex.refl _
  | (refine Ex.trans ?_ (by assumption); walk_at "ex"))
local macro_rules | `(tactic| walk_at "hp") => `(tactic| first
  | assumption
  | exact HI.get (by assumption) (by walk_at "mem")
  | exact HI.dat (by assumption) (by walk_at "dat"))
local macro_rules | `(tactic| walk_at "hi") => `(tactic| first
  | assumption
  | exact HI.swap (by assumption)
  | exact HI.up2 (by assumption)
  | exact HI.up3 (by assumption))
local macro_rules | `(tactic| walk_at "num") => `(tactic| first
  | omega
  | decide
  | exact ⟨by decide, by decide⟩
  | exact cdiv_of (by omega) (by omega)
  | exact ⟨by omega, by omega⟩
  | (refine ⟨by omega, by omega, ?_⟩; omega)
  | exact Or.inl ⟨by omega, by omega⟩
  | exact Or.inr ⟨by omega, by omega⟩)
local macro_rules | `(tactic| walk_at "kn") => `(tactic| first
  | assumption
  | exact Kn.int _
  | exact Kn.str _
  | exact Kn.bl _
  | exact Kn.non
  | exact HI.kn (by assumption) (by assumption)
  | exact HI.kn (by assumption) (Kn.mono (by assumption) (by assumption))
  | exact Kn.lst (by walk_at "hp")
  | exact Kn.tup (by walk_at "hp")
  | exact Kn.dict (by walk_at "hp"))
local macro_rules | `(tactic| walk_at "s1") => `(tactic| first
  | with_reducible refine st_seq ?_
  | with_reducible refine st_asg ?_
  | with_reducible refine st_ret ?_
  | with_reducible refine st_if ?_
  | with_reducible refine st_drop ?_
  | with_reducible refine st_next ?_
  | with_reducible refine st_brk ?_
  | with_reducible refine st_cont ?_
  | with_reducible refine sg_name ?_
  | with_reducible refine sg_sub ?_
  | with_reducible refine sg_nil ?_
  | with_reducible refine sg_cons ?_
  | ((with_reducible refine' sg_tup ?e1 ?e2 ?_); (case e1 => exact SqT.of (by walk_at "hp")); (case e2 => rfl))
  | ((with_reducible refine' se_var ?e1 ?_); (case e1 => rfl))
  | with_reducible refine se_c ?_
  | with_reducible refine se_op ?_
  | with_reducible refine se_un ?_
  | with_reducible refine se_tup ?_
  | with_reducible refine se_lst ?_
  | with_reducible refine se_lstM ?_
  | with_reducible refine st_for ?_
  | with_reducible refine se_lc ?_
  | with_reducible refine it_rng1 ?_
  | with_reducible refine it_rng2 ?_
  | with_reducible refine it_list ?_
  | with_reducible refine it_str ?_
  | with_reducible refine strI_mk ?_
  | ((with_reducible refine' list_mk ?e1 ?_); (case e1 => walk_at "hp"))
  | ((with_reducible refine' rng1_mk ?e1 ?e2 ?_); (case e1 => omega); (case e2 => omega))
  | ((with_reducible refine' rng2_mk ?e1 ?_); (case e1 => omega))
  | with_reducible refine st_yes ?_
  | ((with_reducible refine' al_D ?e1 ?_); (case e1 => assumption); intro _ _ _ _ _ _)
  | ((with_reducible refine' al_M ?e1 ?_); (case e1 => assumption); intro _ _ _)
  | ((with_reducible refine' and_on ?e1 ?_); (case e1 => first | exact small_ok (Nat.le_of_ble_eq_true rfl) | rfl | omega))
  | with_reducible refine sa_nil ?_
  | with_reducible refine sa_cons ?_
  | with_reducible refine se_cb ?_
  | with_reducible refine se_if ?_
  | with_reducible refine st_test ?_
  | with_reducible refine st_B ?_
  | with_reducible refine st_bl ?_
  | with_reducible refine st_and ?_
  | with_reducible refine st_or ?_
  | with_reducible refine st_not ?_
  | with_reducible refine ri0_mk ?_
  | with_reducible refine ru_mk ?_
  | ((with_reducible refine' ri_mk ?e1 ?_); (case e1 => walk_at "num"))
  | with_reducible refine RAdd.int ?_
  | ((with_reducible refine' RMul.int ?e1 ?_); (case e1 => walk_at "num"))
  | with_reducible refine req_int ?_
  | with_reducible refine rne_int ?_
  | with_reducible refine req_str ?_
  | with_reducible refine rne_str ?_
  | ((with_reducible refine' RIx.l ?e1 ?e2 ?_); (case e1 => walk_at "hp"); (case e2 => rfl))
  | ((with_reducible refine' set_c ?e1 ?e2 ?_); (case e1 => assumption); (case e2 => rfl); intro _ _)
  | ((with_reducible refine' set_c2 ?e1 ?e2 ?_); (case e1 => assumption); (case e2 => rfl); intro _ _)
  | ((with_reducible refine' set_c3 ?e1 ?e2 ?_); (case e1 => assumption); (case e2 => rfl); intro _ _)
  | with_reducible refine iteT ?_
  | with_reducible refine iteF ?_
  | ((with_reducible refine' if_yes ?e1 ?_); (case e1 => omega))
  | ((with_reducible refine' if_no ?e1 ?_); (case e1 => omega))
  | ((with_reducible refine' if_yesN ?e1 ?_); (case e1 => omega))
  | ((with_reducible refine' if_noN ?e1 ?_); (case e1 => omega))
  | ((with_reducible refine' RIx.t ?e1 ?e2 ?_); (case e1 => walk_at "hp"); (case e2 => rfl))
  | with_reducible refine se_andV ?_
  | with_reducible refine se_orV ?_
  | with_reducible refine se_notV ?_
  | with_reducible refine se_chain ?_
  | with_reducible refine se_sl ?_
  | with_reducible refine so_none ?_
  | with_reducible refine so_some ?_
  | with_reducible refine so_int ?_
  | with_reducible refine se_m1 ?_
  | with_reducible refine se_m0 ?_
  | with_reducible refine m_str ?_
  | with_reducible refine se_mkE ?_
  | ((with_reducible refine' mkE_now ?e1 ?_); (case e1 => assumption); intro _ _ _ _ _ _ _ _)
  | with_reducible refine st_raiseX ?_
  | ((with_reducible refine' mkX_now ?e1 ?_); (case e1 => assumption); intro _ _ _ _ _ _)
  | with_reducible refine st_par ?_
  | with_reducible refine par_mk ?_
  | ((with_reducible refine' st_aug ?e1 ?_); (case e1 => rfl))
  | ((with_reducible refine' RIsi.ty ?e1 ?e2 ?_); (case e1 => walk_at "kn"); (case e2 => decide))
  | with_reducible refine ris_non ?_
  | with_reducible refine ris_nonN ?_
  | with_reducible refine ris_bl ?_
  | with_reducible refine ris_blN ?_
  | with_reducible refine rin_sign ?_
  | with_reducible refine rni_sign ?_
  | ((with_reducible refine' RLen.str ?e1 ?_); (case e1 => first | exact small_ok (by omega) | exact small_ok (Nat.le_of_ble_eq_true rfl)))
  | ((with_reducible refine' RLen.lst ?e1 ?_); (case e1 => walk_at "hp"))
  | ((with_reducible refine' RLen.frz ?e1 ?_); (case e1 => walk_at "hp"))
  | ((with_reducible refine' RLen.tup ?e1 ?_); (case e1 => walk_at "hp"))
  | (with_reducible refine RMx.mk ?_; intro _ _ _ _)
  | (with_reducible refine RMn.mk ?_; intro _ _ _ _)
  | with_reducible refine RStarts.mk ?_
  | with_reducible refine RFind.mk ?_
  | with_reducible refine RInt.bl ?_
  | ((with_reducible refine' RAll.mk ?e1 ?_); (case e1 => walk_at "hp")))
local macro_rules | `(tactic| walk_at "sx") => `(tactic| repeat (walk_at "s1"; try dsimp only [List.set, Int.reduceToNat]))
local macro_rules | `(tactic| walk_at "go") => `(tactic| (dsimp only [cxOf, L2.start, List.map, List.length, List.replicate, Nat.reduceAdd, Nat.reduceSub, List.replicate, HAppend.hAppend, Append.append, List.append]; walk_at "sx"))
local macro_rules | `(tactic| walk_at "sxm") => `(tactic| repeat (first | ((with_reducible refine' mod_let ?e1 ?_); (case e1 => omega); intro _ _ _) | walk_at "s1"; try dsimp only [List.set, Int.reduceToNat]))
local macro_rules | `(tactic| walk_at "go0") => `(tactic| dsimp only [cxOf, L2.start, List.map, List.length, List.replicate, Nat.reduceAdd, Nat.reduceSub, List.replicate, HAppend.hAppend, Append.append, List.append])

local macro_rules | `(tactic| walk_at "s2") => `(tactic| first
  | walk_at "s1"
  | with_reducible refine se_call1 ?_
  | with_reducible refine se_callN ?_
  | with_reducible refine se_dnewK ?_
  | ((with_reducible refine' se_disp ?e1 ?_); (case e1 => assumption); intro _ _ _)
  | with_reducible refine sp_cons ?_
  | with_reducible refine sp_nil ?_
  | ((with_reducible refine' disp_now ?e1 ?e2 ?e3 ?_); (case e1 => assumption); (case e2 => rfl); (case e3 => exact Nat.le_of_ble_eq_true rfl); intro _ _ _ _ _)
  | ((with_reducible refine' RAdd.lst ?e1 ?e2 ?e3 ?_); (case e1 => walk_at "hp"); (case e2 => walk_at "hp"); (case e3 => exact small_ok (Nat.le_of_ble_eq_true rfl)))
  | ((with_reducible refine' RMul.lst ?e1 ?e2 ?e3 ?e4 ?_); (case e1 => walk_at "hp"); (case e2 => omega); (case e3 => omega); (case e4 => exact small_ok (Nat.le_of_ble_eq_true rfl)))
  | ((with_reducible refine' RStr.int ?e1 ?_); (case e1 => exact log2_small (by omega)))
  | ((with_reducible refine' RSl.str ?e1 ?_); (case e1 => first | exact small_ok (by omega) | exact small_ok (Nat.le_of_ble_eq_true rfl)))
  | ((with_reducible refine' RAdd.str ?e1 ?_); (case e1 => exact small_ok (by omega)))
  | ((with_reducible refine' take_now ?e1 ?e2 ?e3 ?e4 ?e5 ?_); (case e1 => walk_at "hi"); (case e2 => omega); (case e3 => omega); (case e4 => assumption); (case e5 => omega); intro _ _ _ _ _ _ _ _ _))
local macro_rules | `(tactic| walk_at "sy") => `(tactic| repeat (walk_at "s2"; try dsimp only [List.set, Int.reduceToNat]))
local macro_rules | `(tactic| walk_at "sz1") => `(tactic| first
  | ((with_reducible refine' rsl_some ?e1 ?e2 ?_); (case e1 => omega); (case e2 => assumption); intro _ _ _)
  | ((with_reducible refine' radd_some ?e1 ?e2 ?e3 ?_); (case e1 => omega); (case e2 => assumption); (case e3 => assumption); intro _ _ _)
  | ((with_reducible refine' rmul_some ?e1 ?e3 ?e4 ?e5 ?_); (case e1 => rfl); (case e3 => omega); (case e4 => omega); (case e5 => exact sg_of rfl); intro _ _ _)
  | walk_at "s2")
local macro_rules | `(tactic| walk_at "sz") => `(tactic| repeat (walk_at "sz1"; try dsimp only [List.set, Int.reduceToNat]))

local macro_rules | `(tactic| walk_at "s3") => `(tactic| first
  | walk_at "s2"
  | with_reducible refine se_fld ?_
  | with_reducible refine st_fld ?_
  | ((with_reducible refine' fld_mk ?e1 ?e2 ?e3 ?e4 ?_); (case e1 => walk_at "hp"); (case e2 => assumption); (case e3 => walk_at "mem"); (case e4 => rfl))
  | ((with_reducible refine' sfld_now ?e1 ?e2 ?e3 ?e4 ?_); (case e1 => walk_at "hi"); (case e2 => assumption); (case e3 => walk_at "mem"); (case e4 => exact Nat.lt_of_lt_of_le (Nat.lt_succ_self _) (Nat.le_of_ble_eq_true rfl)); intro _ _)
  | with_reducible refine se_meth ?_
  | with_reducible refine se_methN ?_
  | ((with_reducible refine' meth_mk ?e1 ?e2 ?_); (case e1 => walk_at "hp"); (case e2 => rfl))
  | with_reducible refine se_make ?_
  | with_reducible refine se_makeN ?_
  | ((with_reducible refine' make_now ?e1 ?_); (case e1 => assumption); intro _ _ _ _)
  | with_reducible refine se_fmt ?_
  | ((with_reducible refine' RFmt.str ?e1 ?_); (case e1 => omega))
  | ((with_reducible refine' RFmt.int ?e1 ?_); (case e1 => exact log2_small (by omega)))
  | with_reducible refine sj_nil ?_
  | with_reducible refine sj_cons ?_
  | ((with_reducible refine' js_mk ?e1 ?_); (case e1 => omega))
  | ((with_reducible refine' and_on ?e1 ?_); (case e1 => exact small_ok (by simp only [len_app]; omega))))
local macro_rules | `(tactic| walk_at "sc") => `(tactic| repeat (walk_at "s3"; try dsimp only [List.set, Int.reduceToNat]))

local macro_rules | `(tactic| walk_at "s4") => `(tactic| first
  | walk_at "s3"
  | with_reducible refine se_bm ?_
  | with_reducible refine se_bm0 ?_
  | ((with_reducible refine' bm_ty ?e1 ?_); (case e1 => walk_at "hp"))
  | ((with_reducible refine' app_now ?e1 ?e2 ?_); (case e1 => walk_at "hi"); (case e2 => first | omega | exact Nat.lt_of_lt_of_le (Nat.lt_succ_self _) (Nat.le_of_ble_eq_true rfl)); intro _ _))
local macro_rules | `(tactic| walk_at "sd") => `(tactic| repeat (walk_at "s4"; try dsimp only [List.set, Int.reduceToNat]))

local macro_rules | `(tactic| walk_at "s5") => `(tactic| first
  | with_reducible refine rne_same ?_
  | with_reducible refine req_same ?_
  | walk_at "s4"
  | ((with_reducible refine' if_kT ?e1 ?_); (case e1 => first | assumption | rfl))
  | ((with_reducible refine' if_kF ?e1 ?_); (case e1 => first | assumption | rfl))
  | ((with_reducible refine' if_nkT ?e1 ?_); (case e1 => first | assumption | rfl))
  | ((with_reducible refine' if_nkF ?e1 ?_); (case e1 => first | assumption | rfl))
  | ((with_reducible refine' if_tagF ?e1 ?_); (case e1 => rfl))
  | ((with_reducible refine' if_tagN ?e1 ?_); (case e1 => rfl))
  | ((with_reducible refine' if_yes ?e1 ?_); (case e1 => with_reducible rfl))
  | ((with_reducible refine' if_yesN ?e1 ?_); (case e1 => with_reducible rfl))
  | with_reducible refine if_notT ?_
  | with_reducible refine if_notF ?_
  | with_reducible refine it_zip ?_
  | with_reducible refine it_enum ?_
  | with_reducible refine it_tup ?_
  | ((with_reducible refine' zip_mk ?e1 ?e2 ?_); (case e1 => walk_at "hp"); (case e2 => walk_at "hp"))
  | ((with_reducible refine' enum_mk ?e1 ?_); (case e1 => walk_at "hp"))
  | ((with_reducible refine' tupI_mk ?e1 ?_); (case e1 => walk_at "hp"))
  | with_reducible refine st_try ?_
  | with_reducible refine se_by ?_
  | ((with_reducible refine' RTupO.l ?e1 ?_); (case e1 => walk_at "hp"))
  | ((with_reducible refine' RListO.l ?e1 ?_); (case e1 => walk_at "hp"))
  | ((with_reducible refine' RListO.t ?e1 ?_); (case e1 => walk_at "hp"))
  | ((with_reducible refine' RListM.l ?e1 ?_); (case e1 => walk_at "hp")))
local macro_rules | `(tactic| walk_at "se") => `(tactic| repeat (walk_at "s5"; try dsimp only [List.set, Int.reduceToNat]))
local macro_rules | `(tactic| walk_at "sl") => `(tactic| first
  | exact List.Sublist.refl _
  | (refine List.Sublist.cons₂ _ ?_; walk_at "sl")
  | (refine List.Sublist.cons _ ?_; walk_at "sl"))
local macro_rules | `(tactic| walk_at "keep") => `(tactic| exact HI.sublist (by assumption) (by walk_at "sl"))

local macro_rules | `(tactic| walk_at "s6") => `(tactic| first
  | walk_at "s5"
  | with_reducible refine se_dget2 ?_
  | with_reducible refine ip_mk ?_
  | with_reducible refine se_dnewM ?_
  | with_reducible refine se_dget1 ?_
  | ((with_reducible refine' dg_mk ?e1 ?_); (case e1 => walk_at "hp"))
  | ((with_reducible refine' dq_i ?e1 ?_); (case e1 => walk_at "hp"))
  | ((with_reducible refine' dq_s ?e1 ?_); (case e1 => walk_at "hp"))
  | with_reducible refine se_dsub ?_
  | with_reducible refine se_din ?_
  | with_reducible refine se_dni ?_
  | ((with_reducible refine' di_i ?e1 ?_); (case e1 => walk_at "hp"))
  | ((with_reducible refine' di_s ?e1 ?_); (case e1 => walk_at "hp"))
  | with_reducible refine st_dput ?_
  | ((with_reducible refine' dp_i ?e1 ?e2 ?_); (case e1 => walk_at "hi"); (case e2 => omega); intro _ _)
  | ((with_reducible refine' dp_s ?e1 ?e2 ?_); (case e1 => walk_at "hi"); (case e2 => omega); intro _ _)
  | with_reducible refine se_dpop1 ?_
  | with_reducible refine it_seq ?_
  | ((with_reducible refine' seq_l ?e1 ?_); (case e1 => walk_at "hp"))
  | ((with_reducible refine' seq_t ?e1 ?_); (case e1 => walk_at "hp")))
local macro_rules | `(tactic| walk_at "sg") => `(tactic| repeat (walk_at "s6"; try dsimp only [List.set, Int.reduceToNat]))

local macro_rules | `(tactic| walk_at "s7") => `(tactic| first
  | walk_at "s6"
  | with_reducible refine st_augS ?_
  | with_reducible refine se_revL ?_
  | ((with_reducible refine' rv_mk ?e1 ?_); (case e1 => walk_at "hp"))
  | ((with_reducible refine' RGetL.l ?e1 ?e2 ?e3 ?_); (case e1 => walk_at "hp"); (case e2 => omega); (case e3 => assumption)))
local macro_rules | `(tactic| walk_at "sh") => `(tactic| repeat (walk_at "s7"; try dsimp only [List.set, Int.reduceToNat]))

local macro_rules | `(tactic| walk_at "s8") => `(tactic| first
  | walk_at "s7"
  | with_reducible refine se_fmtO ?_)
local macro_rules | `(tactic| walk_at "si") => `(tactic| repeat (walk_at "s8"; try dsimp only [List.set, Int.reduceToNat]))

local macro_rules | `(tactic| walk_at "hi") => `(tactic| exact HI.up4 (by assumption))
local macro_rules | `(tactic| walk_at "s9") => `(tactic| first
  | ((with_reducible refine' disp_nowM ?e1 ?e2 ?e3 ?_); (case e1 => assumption); (case e2 => rfl); (case e3 => exact Nat.le_of_ble_eq_true rfl); intro _ _)
  | walk_at "s8"
  | with_reducible refine st_par3 ?_
  | with_reducible refine par3_mk ?_
  | with_reducible refine se_mkQ ?_
  | ((with_reducible refine' mkQ_now ?e1 ?_); (case e1 => assumption); intro _ _ _ _ _ _ _ _ _ _)
  | ((with_reducible refine' se_dispM ?e1 ?_); (case e1 => assumption); intro _ _ _))
local macro_rules | `(tactic| walk_at "sj") => `(tactic| repeat (walk_at "s9"; try dsimp only [List.set, Int.reduceToNat]))

local macro_rules | `(tactic| walk_at "s11") => `(tactic| first
  | walk_at "s9"
  | with_reducible refine it_enumF ?_
  | ((with_reducible refine' enumF_mk ?e1 ?e2 ?_); (case e1 => walk_at "hp"); (case e2 => decide))
  | with_reducible refine it_rng3 ?_
  | ((with_reducible refine' rng3_dn ?e1 ?_); (case e1 => omega))
  | with_reducible refine it_items ?_)
local macro_rules | `(tactic| walk_at "sm") => `(tactic| repeat (walk_at "s11"; try dsimp only [List.set, Int.reduceToNat]))

local macro_rules | `(tactic| walk_at "s12") => `(tactic| first
  | walk_at "s11"
  | with_reducible refine se_lrg ?_
  | ((with_reducible refine' lrg_mk ?e1 ?_); (case e1 => exact RgOk.of_le (by omega) (by omega) (by omega) (by omega))))
local macro_rules | `(tactic| walk_at "sn") => `(tactic| repeat (walk_at "s12"; try dsimp only [List.set, Int.reduceToNat]))

open XG
/-- what isinstance says of the class at C: of the twelve, of the families -/
structure KindsAre (K : PySem.W.Frag) (C : Addr) (b0 b1 b2 b3 b4 b5 b6 b7 b8 b9 b10 b11 : Bool) : Prop where
  k0 : PySem.W.kitOne K (.ref C) (.ref (He.ga K "NoName")) = some b0
  k1 : PySem.W.kitOne K (.ref C) (.ref (He.ga K "NoNumber")) = some b1
  k2 : PySem.W.kitOne K (.ref C) (.ref (He.ga K "NoSort")) = some b2
  k3 : PySem.W.kitOne K (.ref C) (.ref (He.ga K "NoYear")) = some b3
  k4 : PySem.W.kitOne K (.ref C) (.ref (He.ga K "NoWeek")) = some b4
  k5 : PySem.W.kitOne K (.ref C) (.ref (He.ga K "NoRow")) = some b5
  k6 : PySem.W.kitOne K (.ref C) (.ref (He.ga K "NoStay")) = some b6
  k7 : PySem.W.kitOne K (.ref C) (.ref (He.ga K "NoRests")) = some b7
  k8 : PySem.W.kitOne K (.ref C) (.ref (He.ga K "NoList")) = some b8
  k9 : PySem.W.kitOne K (.ref C) (.ref (He.ga K "Doubled")) = some b9
  k10 : PySem.W.kitOne K (.ref C) (.ref (He.ga K "TooMany")) = some b10
  k11 : PySem.W.kitOne K (.ref C) (.ref (He.ga K "NotThere")) = some b11
structure FamsAre (K : PySem.W.Frag) (C : Addr) (c0 c1 c2 c3 c4 : Bool) : Prop where
  f0 : PySem.W.kitOne K (.ref C) (.ref (He.ga K "WeekError")) = some c0
  f1 : PySem.W.kitOne K (.ref C) (.type "ValueError") = some c1
  f2 : PySem.W.kitOne K (.ref C) (.ref (He.ga K "MissError")) = some c2
  f3 : PySem.W.kitOne K (.ref C) (.type "LookupError") = some c3
  f4 : PySem.W.kitOne K (.ref C) (.type "KeyError") = some c4
/-- an exception in the data -/
structure IsX (K : PySem.W.Frag) (D : Hp) (a C : Addr) (d : Option Addr) (t1 : Addr) : Prop where
  e : D a = some (exq a C d t1)
  dd : ∀ y, d = some y → ∃ fs, D y = some (exd y fs)
  E : ExcC K C
theorem IsX.mono {K : PySem.W.Frag} {D D' : Hp} {a C t1 : Addr} {d : Option Addr} (h : IsX K D a C d t1) (x : Ex D D') : IsX K D' a C d t1 := ⟨x _ _ h.e, fun y e => let ⟨fs, q⟩ := h.dd y e; ⟨fs, x _ _ q⟩, h.E⟩
theorem IsX.isi {K : PySem.W.Frag} {H D : Hp} {R : Cells} {a C t1 : Addr} {d : Option Addr} {c : V} {w : Value} {b : Bool} {Q : VK} (h : IsX K D a C d t1) (hI : HI H R D) (cw : ClsV c w) (k : PySem.W.kitOne K (.ref C) w = some b) (q : Q (.bl b) H) : RIsiX K [.ref a, c] H Q :=
  .x (hI.dat h.e) (fun y e => let ⟨fs, q⟩ := h.dd y e; ⟨fs, hI.dat q⟩) h.E cw k q
def spKinds (K : PySem.W.Frag) : Sp := fun vs H Q _ => ∃ (a C t1 : Addr) (d : Option Addr) (b0 b1 b2 b3 b4 b5 b6 b7 b8 b9 b10 b11 : Bool) (R : Cells) (D : Hp), vs = [.ref a] ∧ HI H R D ∧ IsX K D a C d t1 ∧ KindsAre K C b0 b1 b2 b3 b4 b5 b6 b7 b8 b9 b10 b11 ∧
  ∀ p H' D', HI H' R D' → Ex D D' → D' p = some (.lst [.bl b0, .bl b1, .bl b2, .bl b3, .bl b4, .bl b5, .bl b6, .bl b7, .bl b8, .bl b9, .bl b10, .bl b11]) → Q (.ref p) H'
set_option maxHeartbeats 1000000 in
theorem ok_l_kinds {P : Program} {w : World} {K : PySem.W.Frag} {mg : Str → Option Value} {base : Heap} (T : Tx K mg) : FnG P w K mg base 1 (a_l_kinds K) ["e"] (spKinds K) := by
  refine T.f_l_kinds.ok sc_l_kinds (fun vs H Q E h => ?_) (fun cdv A outer s H vs Q E hgu hr h => ⟨_, (pss_cons (ps_set (i := 1) sc_l_kinds.nd rfl (Or.inl rfl) (pe_lst (pa_cons (pe_callB (show CallR _ (.builtin "isinstance") (XG.RIsiX K) from XG.call_isiX) (by rfl) T.n_isinstance boot_isinstance (pa_cons (pv 0) (pa_cons (pe_glob (v := .ref (He.ga K "NoName")) rfl T.g_NoName rfl) pa_nil))) (pa_cons (pe_callB (show CallR _ (.builtin "isinstance") (XG.RIsiX K) from XG.call_isiX) (by rfl) T.n_isinstance boot_isinstance (pa_cons (pv 0) (pa_cons (pe_glob (v := .ref (He.ga K "NoNumber")) rfl T.g_NoNumber rfl) pa_nil))) (pa_cons (pe_callB (show CallR _ (.builtin "isinstance") (XG.RIsiX K) from XG.call_isiX) (by rfl) T.n_isinstance boot_isinstance (pa_cons (pv 0) (pa_cons (pe_glob (v := .ref (He.ga K "NoSort")) rfl T.g_NoSort rfl) pa_nil))) (pa_cons (pe_callB (show CallR _ (.builtin "isinstance") (XG.RIsiX K) from XG.call_isiX) (by rfl) T.n_isinstance boot_isinstance (pa_cons (pv 0) (pa_cons (pe_glob (v := .ref (He.ga K "NoYear")) rfl T.g_NoYear rfl) pa_nil))) pa_nil))))))
 (pss_cons (ps_set (i := 1) sc_l_kinds.nd rfl (Or.inl rfl) (pe_op op_addU (pv 1) (pe_lst (pa_cons (pe_callB (show CallR _ (.builtin "isinstance") (XG.RIsiX K) from XG.call_isiX) (by rfl) T.n_isinstance boot_isinstance (pa_cons (pv 0) (pa_cons (pe_glob (v := .ref (He.ga K "NoWeek")) rfl T.g_NoWeek rfl) pa_nil))) (pa_cons (pe_callB (show CallR _ (.builtin "isinstance") (XG.RIsiX K) from XG.call_isiX) (by rfl) T.n_isinstance boot_isinstance (pa_cons (pv 0) (pa_cons (pe_glob (v := .ref (He.ga K "NoRow")) rfl T.g_NoRow rfl) pa_nil))) (pa_cons (pe_callB (show CallR _ (.builtin "isinstance") (XG.RIsiX K) from XG.call_isiX) (by rfl) T.n_isinstance boot_isinstance (pa_cons (pv 0) (pa_cons (pe_glob (v := .ref (He.ga K "NoStay")) rfl T.g_NoStay rfl) pa_nil))) (pa_cons (pe_callB (show CallR _ (.builtin "isinstance") (XG.RIsiX K) from XG.call_isiX) (by rfl) T.n_isinstance boot_isinstance (pa_cons (pv 0) (pa_cons (pe_glob (v := .ref (He.ga K "NoRests")) rfl T.g_NoRests rfl) pa_nil))) pa_nil)))))))
 (pss_one (ps_ret (pe_op op_addU (pv 1) (pe_lst (pa_cons (pe_callB (show CallR _ (.builtin "isinstance") (XG.RIsiX K) from XG.call_isiX) (by rfl) T.n_isinstance boot_isinstance (pa_cons (pv 0) (pa_cons (pe_glob (v := .ref (He.ga K "NoList")) rfl T.g_NoList rfl) pa_nil))) (pa_cons (pe_callB (show CallR _ (.builtin "isinstance") (XG.RIsiX K) from XG.call_isiX) (by rfl) T.n_isinstance boot_isinstance (pa_cons (pv 0) (pa_cons (pe_glob (v := .ref (He.ga K "Doubled")) rfl T.g_Doubled rfl) pa_nil))) (pa_cons (pe_callB (show CallR _ (.builtin "isinstance") (XG.RIsiX K) from XG.call_isiX) (by rfl) T.n_isinstance boot_isinstance (pa_cons (pv 0) (pa_cons (pe_glob (v := .ref (He.ga K "TooMany")) rfl T.g_TooMany rfl) pa_nil))) (pa_cons (pe_callB (show CallR _ (.builtin "isinstance") (XG.RIsiX K) from XG.call_isiX) (by rfl) T.n_isinstance boot_isinstance (pa_cons (pv 0) (pa_cons (pe_glob (v := .ref (He.ga K "NotThere")) rfl T.g_NotThere rfl) pa_nil))) pa_nil)))))))))), ?_⟩)
  · obtain ⟨a, C, t1, d, b0, b1, b2, b3, b4, b5, b6, b7, b8, b9, b10, b11, R, D, rfl, _⟩ := h
    rfl
  · obtain ⟨a, C, t1, d, b0, b1, b2, b3, b4, b5, b6, b7, b8, b9, b10, b11, R, D, rfl, hI, ix, kk, go⟩ := h
    walk_at "go"
    walk_at "sn"
    refine ix.isi hI (.own _) kk.k0 ?_
    walk_at "sn"
    refine ix.isi hI (.own _) kk.k1 ?_
    walk_at "sn"
    refine ix.isi hI (.own _) kk.k2 ?_
    walk_at "sn"
    refine ix.isi hI (.own _) kk.k3 ?_
    walk_at "sn"
    rename_i p1 H1 D1 hI1 x1 e1
    refine (ix.mono x1).isi hI1 (.own _) kk.k4 ?_
    walk_at "sn"
    refine (ix.mono x1).isi hI1 (.own _) kk.k5 ?_
    walk_at "sn"
    refine (ix.mono x1).isi hI1 (.own _) kk.k6 ?_
    walk_at "sn"
    refine (ix.mono x1).isi hI1 (.own _) kk.k7 ?_
    walk_at "sn"
    rename_i p2 H2 D2 hI2 x2 e2 p3 H3 D3 hI3 x3 e3
    have x03 := x1.trans (x2.trans x3)
    refine (ix.mono x03).isi hI3 (.own _) kk.k8 ?_
    walk_at "sn"
    refine (ix.mono x03).isi hI3 (.own _) kk.k9 ?_
    walk_at "sn"
    refine (ix.mono x03).isi hI3 (.own _) kk.k10 ?_
    walk_at "sn"
    refine (ix.mono x03).isi hI3 (.own _) kk.k11 ?_
    walk_at "sn"
    rename_i p4 H4 D4 hI4 x4 e4 p5 H5 D5 hI5 x5 e5
    exact go _ _ _ hI5 (x03.trans (x4.trans x5)) e5
theorem kinds_use {K : PySem.W.Frag} {a C t1 : Addr} {d : Option Addr} {b0 b1 b2 b3 b4 b5 b6 b7 b8 b9 b10 b11 : Bool} {R : Cells} {D H : Hp} {Q : VK} {E : XK} (hI : HI H R D) (ix : IsX K D a C d t1) (kk : KindsAre K C b0 b1 b2 b3 b4 b5 b6 b7 b8 b9 b10 b11)
  (q : ∀ p H' D', HI H' R D' → Ex D D' → D' p = some (.lst [.bl b0, .bl b1, .bl b2, .bl b3, .bl b4, .bl b5, .bl b6, .bl b7, .bl b8, .bl b9, .bl b10, .bl b11]) → Q (.ref p) H') : spKinds K [.ref a] H Q E := ⟨a, C, t1, d, b0, b1, b2, b3, b4, b5, b6, b7, b8, b9, b10, b11, R, D, rfl, hI, ix, kk, q⟩
def spFams (K : PySem.W.Frag) : Sp := fun vs H Q _ => ∃ (a C t1 : Addr) (d : Option Addr) (c0 c1 c2 c3 c4 : Bool) (R : Cells) (D : Hp), vs = [.ref a] ∧ HI H R D ∧ IsX K D a C d t1 ∧ FamsAre K C c0 c1 c2 c3 c4 ∧
  ∀ p H' D', HI H' R D' → Ex D D' → D' p = some (.lst [.bl c0, .bl c1, .bl c2, .bl c3, .bl c4]) → Q (.ref p) H'
set_option maxHeartbeats 1000000 in
theorem ok_l_families {P : Program} {w : World} {K : PySem.W.Frag} {mg : Str → Option Value} {base : Heap} (T : Tx K mg) : FnG P w K mg base 1 (a_l_families K) ["e"] (spFams K) := by
  refine T.f_l_families.ok sc_l_families (fun vs H Q E h => ?_) (fun cdv A outer s H vs Q E hgu hr h => ⟨_, (pss_cons (ps_set (i := 1) sc_l_families.nd rfl (Or.inl rfl) (pe_lst (pa_cons (pe_callB (show CallR _ (.builtin "isinstance") (XG.RIsiX K) from XG.call_isiX) (by rfl) T.n_isinstance boot_isinstance (pa_cons (pv 0) (pa_cons (pe_glob (v := .ref (He.ga K "WeekError")) rfl T.g_WeekError rfl) pa_nil))) (pa_cons (pe_callB (show CallR _ (.builtin "isinstance") (XG.RIsiX K) from XG.call_isiX) (by rfl) T.n_isinstance boot_isinstance (pa_cons (pv 0) (pa_cons (pe_bltn (v := .ty "ValueError") (by rfl) T.n_ValueError (by decide +kernel) rfl) pa_nil))) (pa_cons (pe_callB (show CallR _ (.builtin "isinstance") (XG.RIsiX K) from XG.call_isiX) (by rfl) T.n_isinstance boot_isinstance (pa_cons (pv 0) (pa_cons (pe_glob (v := .ref (He.ga K "MissError")) rfl T.g_MissError rfl) pa_nil))) pa_nil)))))
 (pss_one (ps_ret (pe_op op_addU (pv 1) (pe_lst (pa_cons (pe_callB (show CallR _ (.builtin "isinstance") (XG.RIsiX K) from XG.call_isiX) (by rfl) T.n_isinstance boot_isinstance (pa_cons (pv 0) (pa_cons (pe_bltn (v := .ty "LookupError") (by rfl) T.n_LookupError (by decide +kernel) rfl) pa_nil))) (pa_cons (pe_callB (show CallR _ (.builtin "isinstance") (XG.RIsiX K) from XG.call_isiX) (by rfl) T.n_isinstance boot_isinstance (pa_cons (pv 0) (pa_cons (pe_bltn (v := .ty "KeyError") (by rfl) T.n_KeyError (by decide +kernel) rfl) pa_nil))) pa_nil))))))), ?_⟩)
  · obtain ⟨a, C, t1, d, c0, c1, c2, c3, c4, R, D, rfl, _⟩ := h
    rfl
  · obtain ⟨a, C, t1, d, c0, c1, c2, c3, c4, R, D, rfl, hI, ix, kk, go⟩ := h
    walk_at "go"
    walk_at "sn"
    refine ix.isi hI (.own (He.ga K "WeekError")) kk.f0 ?_
    walk_at "sn"
    refine ix.isi hI (.ty "ValueError") kk.f1 ?_
    walk_at "sn"
    refine ix.isi hI (.own (He.ga K "MissError")) kk.f2 ?_
    walk_at "sn"
    rename_i p1 H1 D1 hI1 x1 e1
    refine (ix.mono x1).isi hI1 (.ty "LookupError") kk.f3 ?_
    walk_at "sn"
    refine (ix.mono x1).isi hI1 (.ty "KeyError") kk.f4 ?_
    walk_at "sn"
    rename_i p2 H2 D2 hI2 x2 e2 p3 H3 D3 hI3 x3 e3
    exact go _ _ _ hI3 (x1.trans (x2.trans x3)) e3
theorem fams_use {K : PySem.W.Frag} {a C t1 : Addr} {d : Option Addr} {c0 c1 c2 c3 c4 : Bool} {R : Cells} {D H : Hp} {Q : VK} {E : XK} (hI : HI H R D) (ix : IsX K D a C d t1) (kk : FamsAre K C c0 c1 c2 c3 c4)
  (q : ∀ p H' D', HI H' R D' → Ex D D' → D' p = some (.lst [.bl c0, .bl c1, .bl c2, .bl c3, .bl c4]) → Q (.ref p) H') : spFams K [.ref a] H Q E := ⟨a, C, t1, d, c0, c1, c2, c3, c4, R, D, rfl, hI, ix, kk, q⟩
end Wk

set_option maxRecDepth 100000
set_option maxHeartbeats 4000000
namespace Wk
open PySem PySem.Spec PyProof.Rows L2
local macro_rules | `(tactic| walk_at "mem") => `(tactic| first
  | exact List.mem_cons_self ..
  | exact List.mem_cons_of_mem _ (List.mem_cons_self ..)
  | exact List.mem_cons_of_mem _ (List.mem_cons_of_mem _ (List.mem_cons_self ..))
  | exact List.mem_cons_of_mem _ (List.mem_cons_of_mem _ (List.mem_cons_of_mem _ (List.mem_cons_self ..)))
  | exact List.mem_cons_of_mem _ (List.mem_cons_of_mem _ (List.mem_cons_of_mem _ (List.mem_cons_of_mem _ (List.mem_cons_self ..)))))
local macro_rules | `(tactic| walk_at "dat") => `(tactic| first
  | assumption
  | (refine Ex.of ?_ (by assumption); walk_at "dat"))
local macro_rules | `(tactic| walk_at "ex") => `(tactic| first
  | assumption
  | exact Ex.refl _
  | (refine Ex.trans ?_ (by assumption); walk_at "ex"))
local macro_rules | `(tactic| walk_at "hp") => `(tactic| first
  | assumption
  | exact HI.get (by assumption) (by walk_at "mem")
  | exact HI.dat (by assumption) (by walk_at "dat"))
local macro_rules | `(tactic| walk_at "hi") => `(tactic| first
  | assumption
  | exact HI.swap (by assumption)
  | exact HI.up2 (by assumption)
  | exact HI.up3 (by assumption))
local macro_rules | `(tactic| walk_at "num") => `(tactic| first
  | omega
  | decide
  | exact ⟨by decide, by decide⟩
  | exact cdiv_of (by omega) (by omega)
  | exact ⟨by omega, by omega⟩
  | (refine ⟨by omega, by omega, ?_⟩; omega)
  | exact Or.inl ⟨by omega, by omega⟩
  | exact Or.inr ⟨by omega, by omega⟩)
local macro_rules | `(tactic| walk_at "kn") => `(tactic| first
  | assumption
  | exact Kn.int _
  | exact Kn.str _
  | exact Kn.bl _
  | exact Kn.non
  | exact HI.kn (by assumption) (by assumption)
  | exact HI.kn (by assumption) (Kn.mono (by assumption) (by assumption))
  | exact Kn.lst (by walk_at "hp")
  | exact Kn.tup (by walk_at "hp")
  | exact Kn.dict (by walk_at "hp"))
local macro_rules | `(tactic| walk_at "s1") => `(tactic| first
  | with_reducible refine st_seq ?_
  | with_reducible refine st_asg ?_
  | with_reducible refine st_ret ?_
  | with_reducible refine st_if ?_
  | with_reducible refine st_drop ?_
  | with_reducible refine st_next ?_
  | with_reducible refine st_brk ?_
  | with_reducible refine st_cont ?_
  | with_reducible refine sg_name ?_
  | with_reducible refine sg_sub ?_
  | with_reducible refine sg_nil ?_
  | with_reducible refine sg_cons ?_
  | ((with_reducible refine' sg_tup ?e1 ?e2 ?_); (case e1 => exact SqT.of (by walk_at "hp")); (case e2 => rfl))
  | ((with_reducible refine' se_var ?e1 ?_); (case e1 => rfl))
  | with_reducible refine se_c ?_
  | with_reducible refine se_op ?_
  | with_reducible refine se_un ?_
  | with_reducible refine se_tup ?_
  | with_reducible refine se_lst ?_
  | with_reducible refine se_lstM ?_
  | with_reducible refine st_for ?_
  | with_reducible refine se_lc ?_
  | with_reducible refine it_rng1 ?_
  | with_reducible refine it_rng2 ?_
  | with_reducible refine it_list ?_
  | with_reducible refine it_str ?_
  | with_reducible refine strI_mk ?_
  | ((with_reducible refine' list_mk ?e1 ?_); (case e1 => walk_at "hp"))
  | ((with_reducible refine' rng1_mk ?e1 ?e2 ?_); (case e1 => omega); (case e2 => omega))
  | ((with_reducible refine' rng2_mk ?e1 ?_); (case e1 => omega))
  | with_reducible refine st_yes ?_
  | ((with_reducible refine' al_D ?e1 ?_); (case e1 => assumption); intro _ _ _ _ _ _)
  | ((with_reducible refine' al_M ?e1 ?_); (case e1 => assumption); intro _ _ _)
  | ((with_reducible refine' and_on ?e1 ?_); (case e1 => first | exact small_ok (Nat.le_of_ble_eq_true rfl) | rfl | omega))
  | with_reducible refine sa_nil ?_
  | with_reducible refine sa_cons ?_
  | with_reducible refine se_cb ?_
  | with_reducible refine se_if ?_
  | with_reducible refine st_test ?_
  | with_reducible refine st_B ?_
  | with_reducible refine st_bl ?_
  | with_reducible refine st_and ?_
  | with_reducible refine st_or ?_
  | with_reducible refine st_not ?_
  | with_reducible refine ri0_mk ?_
  | with_reducible refine ru_mk ?_
  | ((with_reducible refine' ri_mk ?e1 ?_); (case e1 => walk_at "num"))
  | with_reducible refine RAdd.int ?_
  | ((with_reducible refine' RMul.int ?e1 ?_); (case e1 => walk_at "num"))
  | with_reducible refine req_int ?_
  | with_reducible refine rne_int ?_
  | with_reducible refine req_str ?_
  | with_reducible refine rne_str ?_
  | ((with_reducible refine' RIx.l ?e1 ?e2 ?_); (case e1 => walk_at "hp"); (case e2 => rfl))
  | ((with_reducible refine' set_c ?e1 ?e2 ?_); (case e1 => assumption); (case e2 => rfl); intro _ _)
  | ((with_reducible refine' set_c2 ?e1 ?e2 ?_); (case e1 => assumption); (case e2 => rfl); intro _ _)
  | ((with_reducible refine' set_c3 ?e1 ?e2 ?_); (case e1 => assumption); (case e2 => rfl); intro _ _)
  | with_reducible refine iteT ?_
  | with_reducible refine iteF ?_
  | ((with_reducible refine' if_yes ?e1 ?_); (case e1 => omega))
  | ((with_reducible refine' if_no ?e1 ?_); (case e1 => omega))
  | ((with_reducible refine' if_yesN ?e1 ?_); (case e1 => omega))
  | ((with_reducible refine' if_noN ?e1 ?_); (case e1 => omega))
  | ((with_reducible refine' RIx.t ?e1 ?e2 ?_); (case e1 => walk_at "hp"); (case e2 => rfl))
  | with_reducible refine se_andV ?_
  | with_reducible refine se_orV ?_
  | with_reducible refine se_notV ?_
  | with_reducible refine se_chain ?_
  | with_reducible refine se_sl ?_
  | with_reducible refine so_none ?_
  | with_reducible refine so_some ?_
  | with_reducible refine so_int ?_
  | with_reducible refine se_m1 ?_
  | with_reducible refine se_m0 ?_
  | with_reducible refine m_str ?_
  | with_reducible refine se_mkE ?_
  | ((with_reducible refine' mkE_now ?e1 ?_); (case e1 => assumption); intro _ _ _ _ _ _ _ _)
  | with_reducible refine st_raiseX ?_
  | ((with_reducible refine' mkX_now ?e1 ?_); (case e1 => assumption); intro _ _ _ _ _ _)
  | with_reducible refine st_par ?_
  | with_reducible refine par_mk ?_
  | ((with_reducible refine' st_aug ?e1 ?_); (case e1 => rfl))
  | ((with_reducible refine' RIsi.ty ?e1 ?e2 ?_); (case e1 => walk_at "kn"); (case e2 => decide))
  | with_reducible refine ris_non ?_
  | with_reducible refine ris_nonN ?_
  | with_reducible refine ris_bl ?_
  | with_reducible refine ris_blN ?_
  | with_reducible refine rin_sign ?_
  | with_reducible refine rni_sign ?_
  | ((with_reducible refine' RLen.str ?e1 ?_); (case e1 => first | exact small_ok (by omega) | exact small_ok (Nat.le_of_ble_eq_true rfl)))
  | ((with_reducible refine' RLen.lst ?e1 ?_); (case e1 => walk_at "hp"))
  | ((with_reducible refine' RLen.frz ?e1 ?_); (case e1 => walk_at "hp"))
  | ((with_reducible refine' RLen.tup ?e1 ?_); (case e1 => walk_at "hp"))
  | (with_reducible refine RMx.mk ?_; intro _ _ _ _)
  | (with_reducible refine RMn.mk ?_; intro _ _ _ _)
  | with_reducible refine RStarts.mk ?_
  | with_reducible refine RFind.mk ?_
  | with_reducible refine RInt.bl ?_
  | ((with_reducible refine' RAll.mk ?e1 ?_); (case e1 => walk_at "hp")))
local macro_rules | `(tactic| walk_at "sx") => `(tactic| repeat (walk_at "s1"; try dsimp only [List.set, Int.reduceToNat]))
local macro_rules | `(tactic| walk_at "go") => `(tactic| (dsimp only [cxOf, L2.start, List.map, List.length, List.replicate, Nat.reduceAdd, Nat.reduceSub, List.replicate, HAppend.hAppend, Append.append, List.append]; walk_at "sx"))
local macro_rules | `(tactic| walk_at "sxm") => `(tactic| repeat (first | ((with_reducible refine' mod_let ?e1 ?_); (case e1 => omega); intro _ _ _) | walk_at "s1"; try dsimp only [List.set, Int.reduceToNat]))
local macro_rules | `(tactic| walk_at "go0") => `(tactic| dsimp only [cxOf, L2.start, List.map, List.length, List.replicate, Nat.reduceAdd, Nat.reduceSub, List.replicate, HAppend.hAppend, Append.append, List.append])

local macro_rules | `(tactic| walk_at "s2") => `(tactic| first
  | walk_at "s1"
  | with_reducible refine se_call1 ?_
  | with_reducible refine se_callN ?_
  | with_reducible refine se_dnewK ?_
  | ((with_reducible refine' se_disp ?e1 ?_); (case e1 => assumption); intro _ _ _)
  | with_reducible refine sp_cons ?_
  | with_reducible refine sp_nil ?_
  | ((with_reducible refine' disp_now ?e1 ?e2 ?e3 ?_); (case e1 => assumption); (case e2 => rfl); (case e3 => exact Nat.le_of_ble_eq_true rfl); intro _ _ _ _ _)
  | ((with_reducible refine' RAdd.lst ?e1 ?e2 ?e3 ?_); (case e1 => walk_at "hp"); (case e2 => walk_at "hp"); (case e3 => exact small_ok (Nat.le_of_ble_eq_true rfl)))
  | ((with_reducible refine' RMul.lst ?e1 ?e2 ?e3 ?e4 ?_); (case e1 => walk_at "hp"); (case e2 => omega); (case e3 => omega); (case e4 => exact small_ok (Nat.le_of_ble_eq_true rfl)))
  | ((with_reducible refine' RStr.int ?e1 ?_); (case e1 => exact log2_small (by omega)))
  | ((with_reducible refine' RSl.str ?e1 ?_); (case e1 => first | exact small_ok (by omega) | exact small_ok (Nat.le_of_ble_eq_true rfl)))
  | ((with_reducible refine' RAdd.str ?e1 ?_); (case e1 => exact small_ok (by omega)))
  | ((with_reducible refine' take_now ?e1 ?e2 ?e3 ?e4 ?e5 ?_); (case e1 => walk_at "hi"); (case e2 => omega); (case e3 => omega); (case e4 => assumption); (case e5 => omega); intro _ _ _ _ _ _ _ _ _))
local macro_rules | `(tactic| walk_at "sy") => `(tactic| repeat (walk_at "s2"; try dsimp only [List.set, Int.reduceToNat]))
local macro_rules | `(tactic| walk_at "sz1") => `(tactic| first
  | ((with_reducible refine' rsl_some ?e1 ?e2 ?_); (case e1 => omega); (case e2 => assumption); intro _ _ _)
  | ((with_reducible refine' radd_some ?e1 ?e2 ?e3 ?_); (case e1 => omega); (case e2 => assumption); (case e3 => assumption); intro _ _ _)
  | ((with_reducible refine' rmul_some ?e1 ?e3 ?e4 ?e5 ?_); (case e1 => rfl); (case e3 => omega); (case e4 => omega); (case e5 => exact sg_of rfl); intro _ _ _)
  | walk_at "s2")
local macro_rules | `(tactic| walk_at "sz") => `(tactic| repeat (walk_at "sz1"; try dsimp only [List.set, Int.reduceToNat]))

local macro_rules | `(tactic| walk_at "s3") => `(tactic| first
  | walk_at "s2"
  | with_reducible refine se_fld ?_
  | with_reducible refine st_fld ?_
  | ((with_reducible refine' fld_mk ?e1 ?e2 ?e3 ?e4 ?_); (case e1 => walk_at "hp"); (case e2 => assumption); (case e3 => walk_at "mem"); (case e4 => rfl))
  | ((with_reducible refine' sfld_now ?e1 ?e2 ?e3 ?e4 ?_); (case e1 => walk_at "hi"); (case e2 => assumption); (case e3 => walk_at "mem"); (case e4 => exact Nat.lt_of_lt_of_le (Nat.lt_succ_self _) (Nat.le_of_ble_eq_true rfl)); intro _ _)
  | with_reducible refine se_meth ?_
  | with_reducible refine se_methN ?_
  | ((with_reducible refine' meth_mk ?e1 ?e2 ?_); (case e1 => walk_at "hp"); (case e2 => rfl))
  | with_reducible refine se_make ?_
  | with_reducible refine se_makeN ?_
  | ((with_reducible refine' make_now ?e1 ?_); (case e1 => assumption); intro _ _ _ _)
  | with_reducible refine se_fmt ?_
  | ((with_reducible refine' RFmt.str ?e1 ?_); (case e1 => omega))
  | ((with_reducible refine' RFmt.int ?e1 ?_); (case e1 => exact log2_small (by omega)))
  | with_reducible refine sj_nil ?_
  | with_reducible refine sj_cons ?_
  | ((with_reducible refine' js_mk ?e1 ?_); (case e1 => omega))
  | ((with_reducible refine' and_on ?e1 ?_); (case e1 => exact small_ok (by simp only [len_app]; omega))))
local macro_rules | `(tactic| walk_at "sc") => `(tactic| repeat (walk_at "s3"; try dsimp only [List.set, Int.reduceToNat]))

local macro_rules | `(tactic| walk_at "s4") => `(tactic| first
  | walk_at "s3"
  | with_reducible refine se_bm ?_
  | with_reducible refine se_bm0 ?_
  | ((with_reducible refine' bm_ty ?e1 ?_); (case e1 => walk_at "hp"))
  | ((with_reducible refine' app_now ?e1 ?e2 ?_); (case e1 => walk_at "hi"); (case e2 => first | omega | exact Nat.lt_of_lt_of_le (Nat.lt_succ_self _) (Nat.le_of_ble_eq_true rfl)); intro _ _))
local macro_rules | `(tactic| walk_at "sd") => `(tactic| repeat (walk_at "s4"; try dsimp only [List.set, Int.reduceToNat]))

local macro_rules | `(tactic| walk_at "s5") => `(tactic| first
  | with_reducible refine rne_same ?_
  | with_reducible refine req_same ?_
  | walk_at "s4"
  | ((with_reducible refine' if_kT ?e1 ?_); (case e1 => first | assumption | rfl))
  | ((with_reducible refine' if_kF ?e1 ?_); (case e1 => first | assumption | rfl))
  | ((with_reducible refine' if_nkT ?e1 ?_); (case e1 => first | assumption | rfl))
  | ((with_reducible refine' if_nkF ?e1 ?_); (case e1 => first | assumption | rfl))
  | ((with_reducible refine' if_tagF ?e1 ?_); (case e1 => rfl))
  | ((with_reducible refine' if_tagN ?e1 ?_); (case e1 => rfl))
  | ((with_reducible refine' if_yes ?e1 ?_); (case e1 => with_reducible rfl))
  | ((with_reducible refine' if_yesN ?e1 ?_); (case e1 => with_reducible rfl))
  | with_reducible refine if_notT ?_
  | with_reducible refine if_notF ?_
  | with_reducible refine it_zip ?_
  | with_reducible refine it_enum ?_
  | with_reducible refine it_tup ?_
  | ((with_reducible refine' zip_mk ?e1 ?e2 ?_); (case e1 => walk_at "hp"); (case e2 => walk_at "hp"))
  | ((with_reducible refine' enum_mk ?e1 ?_); (case e1 => walk_at "hp"))
  | ((with_reducible refine' tupI_mk ?e1 ?_); (case e1 => walk_at "hp"))
  | with_reducible refine st_try ?_
  | with_reducible refine se_by ?_
  | ((with_reducible refine' RTupO.l ?e1 ?_); (case e1 => walk_at "hp"))
  | ((with_reducible refine' RListO.l ?e1 ?_); (case e1 => walk_at "hp"))
  | ((with_reducible refine' RListO.t ?e1 ?_); (case e1 => walk_at "hp"))
  | ((with_reducible refine' RListM.l ?e1 ?_); (case e1 => walk_at "hp")))
local macro_rules | `(tactic| walk_at "se") => `(tactic| repeat (walk_at "s5"; try dsimp only [List.set, Int.reduceToNat]))
local macro_rules | `(tactic| walk_at "sl") => `(tactic| first
  | exact List.Sublist.refl _
  | (refine List.Sublist.cons₂ _ ?_; walk_at "sl")
  | (refine List.Sublist.cons _ ?_; walk_at "sl"))
local macro_rules | `(tactic| walk_at "keep") => `(tactic| exact HI.sublist (by assumption) (by walk_at "sl"))

local macro_rules | `(tactic| walk_at "s6") => `(tactic| first
  | walk_at "s5"
  | with_reducible refine se_dget2 ?_
  | with_reducible refine ip_mk ?_
  | with_reducible refine se_dnewM ?_
  | with_reducible refine se_dget1 ?_
  | ((with_reducible refine' dg_mk ?e1 ?_); (case e1 => walk_at "hp"))
  | ((with_reducible refine' dq_i ?e1 ?_); (case e1 => walk_at "hp"))
  | ((with_reducible refine' dq_s ?e1 ?_); (case e1 => walk_at "hp"))
  | with_reducible refine se_dsub ?_
  | with_reducible refine se_din ?_
  | with_reducible refine se_dni ?_
  | ((with_reducible refine' di_i ?e1 ?_); (case e1 => walk_at "hp"))
  | ((with_reducible refine' di_s ?e1 ?_); (case e1 => walk_at "hp"))
  | with_reducible refine st_dput ?_
  | ((with_reducible refine' dp_i ?e1 ?e2 ?_); (case e1 => walk_at "hi"); (case e2 => omega); intro _ _)
  | ((with_reducible refine' dp_s ?e1 ?e2 ?_); (case e1 => walk_at "hi"); (case e2 => omega); intro _ _)
  | with_reducible refine se_dpop1 ?_
  | with_reducible refine it_seq ?_
  | ((with_reducible refine' seq_l ?e1 ?_); (case e1 => walk_at "hp"))
  | ((with_reducible refine' seq_t ?e1 ?_); (case e1 => walk_at "hp")))
local macro_rules | `(tactic| walk_at "sg") => `(tactic| repeat (walk_at "s6"; try dsimp only [List.set, Int.reduceToNat]))

local macro_rules | `(tactic| walk_at "s7") => `(tactic| first
  | walk_at "s6"
  | with_reducible refine st_augS ?_
  | with_reducible refine se_revL ?_
  | ((with_reducible refine' rv_mk ?e1 ?_); (case e1 => walk_at "hp"))
  | ((with_reducible refine' RGetL.l ?e1 ?e2 ?e3 ?_); (case e1 => walk_at "hp"); (case e2 => omega); (case e3 => assumption)))
local macro_rules | `(tactic| walk_at "sh") => `(tactic| repeat (walk_at "s7"; try dsimp only [List.set, Int.reduceToNat]))

local macro_rules | `(tactic| walk_at "s8") => `(tactic| first
  | walk_at "s7"
  | with_reducible refine se_fmtO ?_)
local macro_rules | `(tactic| walk_at "si") => `(tactic| repeat (walk_at "s8"; try dsimp only [List.set, Int.reduceToNat]))

local macro_rules | `(tactic| walk_at "hi") => `(tactic| exact HI.up4 (by assumption))
local macro_rules | `(tactic| walk_at "s9") => `(tactic| first
  | ((with_reducible refine' disp_nowM ?e1 ?e2 ?e3 ?_); (case e1 => assumption); (case e2 => rfl); (case e3 => exact Nat.le_of_ble_eq_true rfl); intro _ _)
  | walk_at "s8"
  | with_reducible refine st_par3 ?_
  | with_reducible refine par3_mk ?_
  | with_reducible refine se_mkQ ?_
  | ((with_reducible refine' mkQ_now ?e1 ?_); (case e1 => assumption); intro _ _ _ _ _ _ _ _ _ _)
  | ((with_reducible refine' se_dispM ?e1 ?_); (case e1 => assumption); intro _ _ _))
local macro_rules | `(tactic| walk_at "sj") => `(tactic| repeat (walk_at "s9"; try dsimp only [List.set, Int.reduceToNat]))

local macro_rules | `(tactic| walk_at "s11") => `(tactic| first
  | walk_at "s9"
  | with_reducible refine it_enumF ?_
  | ((with_reducible refine' enumF_mk ?e1 ?e2 ?_); (case e1 => walk_at "hp"); (case e2 => decide))
  | with_reducible refine it_rng3 ?_
  | ((with_reducible refine' rng3_dn ?e1 ?_); (case e1 => omega))
  | with_reducible refine it_items ?_)
local macro_rules | `(tactic| walk_at "sm") => `(tactic| repeat (walk_at "s11"; try dsimp only [List.set, Int.reduceToNat]))

local macro_rules | `(tactic| walk_at "s12") => `(tactic| first
  | walk_at "s11"
  | with_reducible refine se_lrg ?_
  | ((with_reducible refine' lrg_mk ?e1 ?_); (case e1 => exact RgOk.of_le (by omega) (by omega) (by omega) (by omega))))
local macro_rules | `(tactic| walk_at "sn") => `(tactic| repeat (walk_at "s12"; try dsimp only [List.set, Int.reduceToNat]))

open XG
section
variable {K : PySem.W.Frag} {mg : Str → Option Value}
theorem kindsOf (T : Tx K mg) {w : Int} (w0 : 0 ≤ w) (w12 : w < 12) : KindsAre K (cl K w) (decide ((0 : Int) = w)) (decide ((1 : Int) = w)) (decide ((2 : Int) = w)) (decide ((3 : Int) = w)) (decide ((4 : Int) = w)) (decide ((5 : Int) = w)) (decide ((6 : Int) = w)) (decide ((7 : Int) = w)) (decide ((8 : Int) = w)) (decide ((9 : Int) = w)) (decide ((10 : Int) = w)) (decide ((11 : Int) = w)) := by
  have hw : w = 0 ∨ w = 1 ∨ w = 2 ∨ w = 3 ∨ w = 4 ∨ w = 5 ∨ w = 6 ∨ w = 7 ∨ w = 8 ∨ w = 9 ∨ w = 10 ∨ w = 11 := by omega
  rcases hw with rfl | rfl | rfl | rfl | rfl | rfl | rfl | rfl | rfl | rfl | rfl | rfl
  · exact ⟨T.ki_NoName_NoName, T.ki_NoName_NoNumber, T.ki_NoName_NoSort, T.ki_NoName_NoYear, T.ki_NoName_NoWeek, T.ki_NoName_NoRow, T.ki_NoName_NoStay, T.ki_NoName_NoRests, T.ki_NoName_NoList, T.ki_NoName_Doubled, T.ki_NoName_TooMany, T.ki_NoName_NotThere⟩
  · exact ⟨T.ki_NoNumber_NoName, T.ki_NoNumber_NoNumber, T.ki_NoNumber_NoSort, T.ki_NoNumber_NoYear, T.ki_NoNumber_NoWeek, T.ki_NoNumber_NoRow, T.ki_NoNumber_NoStay, T.ki_NoNumber_NoRests, T.ki_NoNumber_NoList, T.ki_NoNumber_Doubled, T.ki_NoNumber_TooMany, T.ki_NoNumber_NotThere⟩
  · exact ⟨T.ki_NoSort_NoName, T.ki_NoSort_NoNumber, T.ki_NoSort_NoSort, T.ki_NoSort_NoYear, T.ki_NoSort_NoWeek, T.ki_NoSort_NoRow, T.ki_NoSort_NoStay, T.ki_NoSort_NoRests, T.ki_NoSort_NoList, T.ki_NoSort_Doubled, T.ki_NoSort_TooMany, T.ki_NoSort_NotThere⟩
  · exact ⟨T.ki_NoYear_NoName, T.ki_NoYear_NoNumber, T.ki_NoYear_NoSort, T.ki_NoYear_NoYear, T.ki_NoYear_NoWeek, T.ki_NoYear_NoRow, T.ki_NoYear_NoStay, T.ki_NoYear_NoRests, T.ki_NoYear_NoList, T.ki_NoYear_Doubled, T.ki_NoYear_TooMany, T.ki_NoYear_NotThere⟩
  · exact ⟨T.ki_NoWeek_NoName, T.ki_NoWeek_NoNumber, T.ki_NoWeek_NoSort, T.ki_NoWeek_NoYear, T.ki_NoWeek_NoWeek, T.ki_NoWeek_NoRow, T.ki_NoWeek_NoStay, T.ki_NoWeek_NoRests, T.ki_NoWeek_NoList, T.ki_NoWeek_Doubled, T.ki_NoWeek_TooMany, T.ki_NoWeek_NotThere⟩
  · exact ⟨T.ki_NoRow_NoName, T.ki_NoRow_NoNumber, T.ki_NoRow_NoSort, T.ki_NoRow_NoYear, T.ki_NoRow_NoWeek, T.ki_NoRow_NoRow, T.ki_NoRow_NoStay, T.ki_NoRow_NoRests, T.ki_NoRow_NoList, T.ki_NoRow_Doubled, T.ki_NoRow_TooMany, T.ki_NoRow_NotThere⟩
  · exact ⟨T.ki_NoStay_NoName, T.ki_NoStay_NoNumber, T.ki_NoStay_NoSort, T.ki_NoStay_NoYear, T.ki_NoStay_NoWeek, T.ki_NoStay_NoRow, T.ki_NoStay_NoStay, T.ki_NoStay_NoRests, T.ki_NoStay_NoList, T.ki_NoStay_Doubled, T.ki_NoStay_TooMany, T.ki_NoStay_NotThere⟩
  · exact ⟨T.ki_NoRests_NoName, T.ki_NoRests_NoNumber, T.ki_NoRests_NoSort, T.ki_NoRests_NoYear, T.ki_NoRests_NoWeek, T.ki_NoRests_NoRow, T.ki_NoRests_NoStay, T.ki_NoRests_NoRests, T.ki_NoRests_NoList, T.ki_NoRests_Doubled, T.ki_NoRests_TooMany, T.ki_NoRests_NotThere⟩
  · exact ⟨T.ki_NoList_NoName, T.ki_NoList_NoNumber, T.ki_NoList_NoSort, T.ki_NoList_NoYear, T.ki_NoList_NoWeek, T.ki_NoList_NoRow, T.ki_NoList_NoStay, T.ki_NoList_NoRests, T.ki_NoList_NoList, T.ki_NoList_Doubled, T.ki_NoList_TooMany, T.ki_NoList_NotThere⟩
  · exact ⟨T.ki_Doubled_NoName, T.ki_Doubled_NoNumber, T.ki_Doubled_NoSort, T.ki_Doubled_NoYear, T.ki_Doubled_NoWeek, T.ki_Doubled_NoRow, T.ki_Doubled_NoStay, T.ki_Doubled_NoRests, T.ki_Doubled_NoList, T.ki_Doubled_Doubled, T.ki_Doubled_TooMany, T.ki_Doubled_NotThere⟩
  · exact ⟨T.ki_TooMany_NoName, T.ki_TooMany_NoNumber, T.ki_TooMany_NoSort, T.ki_TooMany_NoYear, T.ki_TooMany_NoWeek, T.ki_TooMany_NoRow, T.ki_TooMany_NoStay, T.ki_TooMany_NoRests, T.ki_TooMany_NoList, T.ki_TooMany_Doubled, T.ki_TooMany_TooMany, T.ki_TooMany_NotThere⟩
  · exact ⟨T.ki_NotThere_NoName, T.ki_NotThere_NoNumber, T.ki_NotThere_NoSort, T.ki_NotThere_NoYear, T.ki_NotThere_NoWeek, T.ki_NotThere_NoRow, T.ki_NotThere_NoStay, T.ki_NotThere_NoRests, T.ki_NotThere_NoList, T.ki_NotThere_Doubled, T.ki_NotThere_TooMany, T.ki_NotThere_NotThere⟩
theorem famsOf (T : Tx K mg) {w : Int} (w0 : 0 ≤ w) (w12 : w < 12) : FamsAre K (cl K w) (decide (w < 11)) (decide (w < 11)) (decide (w = 11)) (decide (w = 11)) false := by
  have hw : w = 0 ∨ w = 1 ∨ w = 2 ∨ w = 3 ∨ w = 4 ∨ w = 5 ∨ w = 6 ∨ w = 7 ∨ w = 8 ∨ w = 9 ∨ w = 10 ∨ w = 11 := by omega
  rcases hw with rfl | rfl | rfl | rfl | rfl | rfl | rfl | rfl | rfl | rfl | rfl | rfl
  · exact ⟨T.ki_NoName_WeekError, T.kv_NoName_ValueError, T.ki_NoName_MissError, T.kv_NoName_LookupError, T.kv_NoName_KeyError⟩
  · exact ⟨T.ki_NoNumber_WeekError, T.kv_NoNumber_ValueError, T.ki_NoNumber_MissError, T.kv_NoNumber_LookupError, T.kv_NoNumber_KeyError⟩
  · exact ⟨T.ki_NoSort_WeekError, T.kv_NoSort_ValueError, T.ki_NoSort_MissError, T.kv_NoSort_LookupError, T.kv_NoSort_KeyError⟩
  · exact ⟨T.ki_NoYear_WeekError, T.kv_NoYear_ValueError, T.ki_NoYear_MissError, T.kv_NoYear_LookupError, T.kv_NoYear_KeyError⟩
  · exact ⟨T.ki_NoWeek_WeekError, T.kv_NoWeek_ValueError, T.ki_NoWeek_MissError, T.kv_NoWeek_LookupError, T.kv_NoWeek_KeyError⟩
  · exact ⟨T.ki_NoRow_WeekError, T.kv_NoRow_ValueError, T.ki_NoRow_MissError, T.kv_NoRow_LookupError, T.kv_NoRow_KeyError⟩
  · exact ⟨T.ki_NoStay_WeekError, T.kv_NoStay_ValueError, T.ki_NoStay_MissError, T.kv_NoStay_LookupError, T.kv_NoStay_KeyError⟩
  · exact ⟨T.ki_NoRests_WeekError, T.kv_NoRests_ValueError, T.ki_NoRests_MissError, T.kv_NoRests_LookupError, T.kv_NoRests_KeyError⟩
  · exact ⟨T.ki_NoList_WeekError, T.kv_NoList_ValueError, T.ki_NoList_MissError, T.kv_NoList_LookupError, T.kv_NoList_KeyError⟩
  · exact ⟨T.ki_Doubled_WeekError, T.kv_Doubled_ValueError, T.ki_Doubled_MissError, T.kv_Doubled_LookupError, T.kv_Doubled_KeyError⟩
  · exact ⟨T.ki_TooMany_WeekError, T.kv_TooMany_ValueError, T.ki_TooMany_MissError, T.kv_TooMany_LookupError, T.kv_TooMany_KeyError⟩
  · exact ⟨T.ki_NotThere_WeekError, T.kv_NotThere_ValueError, T.ki_NotThere_MissError, T.kv_NotThere_LookupError, T.kv_NotThere_KeyError⟩
theorem excOf (T : Tx K mg) {w : Int} (w0 : 0 ≤ w) (w12 : w < 12) : ExcC K (cl K w) := by
  have hw : w = 0 ∨ w = 1 ∨ w = 2 ∨ w = 3 ∨ w = 4 ∨ w = 5 ∨ w = 6 ∨ w = 7 ∨ w = 8 ∨ w = 9 ∨ w = 10 ∨ w = 11 := by omega
  rcases hw with rfl | rfl | rfl | rfl | rfl | rfl | rfl | rfl | rfl | rfl | rfl | rfl
  · exact T.x_NoName.E
  · exact T.x_NoNumber.E
  · exact T.x_NoSort.E
  · exact T.x_NoYear.E
  · exact T.x_NoWeek.E
  · exact T.x_NoRow.E
  · exact T.x_NoStay.E
  · exact T.x_NoRests.E
  · exact T.x_NoList.E
  · exact T.x_Doubled.E
  · exact T.x_TooMany.E
  · exact T.x_NotThere.E
end
theorem Thg.sh {K : PySem.W.Frag} {D H : Hp} {C R : Cells} {v : V} (h : Thg K D C v) (hI : HI H R D) (s : ∀ c ∈ C, c ∈ R) : ShS K H v 20000 10 := by
  cases h with
  | dat kn a b sh => exact sh.mono hI.sub
  | lst sh l => exact (ShS.lst (n := 2000) (k := 8) (hI.get (s _ (List.mem_cons_self ..))) (ShLs.of fun v hv => (sh v hv).mono hI.sub)).le (by omega) (by decide)
  | dict sh l => exact (ShS.dict (n := 2000) (k := 8) (hI.get (s _ (List.mem_cons_self ..))) fun q hq => ⟨(sh q hq).1, (sh q hq).2.mono hI.sub⟩).le (by omega) (by decide)
theorem put_all {P : Key × V → Prop} {kvs : List (Key × V)} {k : Key} {v : V} (h : ∀ q ∈ kvs, P q) (hp : P (k, v)) : ∀ q ∈ putK kvs k v, P q := fun p hp2 => by
  unfold putK at hp2
  split at hp2
  · obtain ⟨p0, h0, e⟩ := List.mem_map.mp hp2
    by_cases g : p0.1 = k
    · rw [if_pos g] at e
      rw [← e, g]
      exact hp
    · rw [if_neg g] at e
      rw [← e]
      exact h p0 h0
  · rcases List.mem_append.mp hp2 with h1 | h1
    · exact h p h1
    · rw [List.mem_singleton.mp h1]
      exact hp
def spRightX (K : PySem.W.Frag) : Sp := fun vs H Q _ => ∃ (w : Int) (u v : V) (C1 C2 R : Cells) (D : Hp), vs = [.int w, u, v] ∧ HI H (C1 ++ (C2 ++ R)) D ∧ 0 ≤ w ∧ w < 12 ∧ Thg K D C1 u ∧ Thg K D C2 v ∧ ∀ H' D', HI H' R D' → Ex D D' → Q (.bl true) H'
set_option maxHeartbeats 2000000 in
theorem ok_l_right {P : Program} {w : World} {K : PySem.W.Frag} {mg : Str → Option Value} {base : Heap} (T : Tx K mg) : FnG P w K mg base 6 (a_l_right K) ["which", "one", "other"] (spRightX K) := by
  refine T.f_l_right.ok sc_l_right (fun vs H Q E h => ?_) (fun cdv A outer s H vs Q E hgu hr h => ⟨_, (pss_cons (ps_asg (ge_call (ok_l_made T) hgu (hr.mono (by decide)) rfl T.g_l_made T.k_l_made T.b_l_made .nil (fun _ => pass_takes (takes_of rfl rfl rfl rfl)) (pa_cons (pv 0) (pa_cons (pv 1) pa_nil))) (pg_tup (by rfl) (pgs_cons (pg_name (i := 3) sc_l_right.nd rfl (Or.inl rfl)) (pgs_cons (pg_name (i := 4) sc_l_right.nd rfl (Or.inl rfl)) pgs_nil))))
 (pss_cons (ps_asg (ge_call (ok_l_made T) hgu (hr.mono (by decide)) rfl T.g_l_made T.k_l_made T.b_l_made .nil (fun _ => pass_takes (takes_of rfl rfl rfl rfl)) (pa_cons (pv 0) (pa_cons (pv 2) pa_nil))) (pg_tup (by rfl) (pgs_cons (pg_name (i := 5) sc_l_right.nd rfl (Or.inl rfl)) (pgs_cons (pg_name (i := 6) sc_l_right.nd rfl (Or.inl rfl)) pgs_nil))))
 (pss_cons (ps_if (PW.pt (pw_or (pt_cmpR (op_neI hr.units) (ge_call (ok_l_kinds T) hgu (hr.mono (by decide)) rfl T.g_l_kinds T.k_l_kinds T.b_l_kinds .nil (fun _ => pass_takes (takes_of rfl rfl rfl rfl)) (pa_cons (pv 3) pa_nil)) (pe_lc (own := [("k", 7)]) rfl sc_l_right.nd (pi_range1 rfl T.n_range (pa_cons pe_int pa_nil)) (blkOk_by (own := [("k", 7)]) (N := ["which", "one", "other", "e", "value", "second", "more", "k"]) (sc := defScope s_l_right) (by decide +kernel)) (fun _ _ _ _ _ => (pg_name (i := 7) sc_l_right.nd rfl (by first | exact Or.inl rfl | exact Or.inr rfl))) (fun _ _ _ _ _ => pts_nil) (fun _ _ _ _ _ => (pe_cmpR (op_eqU hr.units) (pv 7) (pv 0) (nomark _)))) (nomark _)) (pw_or1 (pt_cmpR (op_neI hr.units) (ge_call (ok_l_kinds T) hgu (hr.mono (by decide)) rfl T.g_l_kinds T.k_l_kinds T.b_l_kinds .nil (fun _ => pass_takes (takes_of rfl rfl rfl rfl)) (pa_cons (pv 5) pa_nil)) (ge_call (ok_l_kinds T) hgu (hr.mono (by decide)) rfl T.g_l_kinds T.k_l_kinds T.b_l_kinds .nil (fun _ => pass_takes (takes_of rfl rfl rfl rfl)) (pa_cons (pv 3) pa_nil)) (nomark _))))) (pss_one (ps_ret pe_bl)) pss_nil)
 (pss_cons (ps_if (pt_cmpR (op_neI hr.units) (ge_call (ok_l_families T) hgu (hr.mono (by decide)) rfl T.g_l_families T.k_l_families T.b_l_families .nil (fun _ => pass_takes (takes_of rfl rfl rfl rfl)) (pa_cons (pv 3) pa_nil)) (pe_lst (pa_cons (pe_cmpR op_lt (pv 0) pe_int (nomark _)) (pa_cons (pe_cmpR op_lt (pv 0) pe_int (nomark _)) (pa_cons (pe_cmpR (op_eqU hr.units) (pv 0) pe_int (nomark _)) (pa_cons (pe_cmpR (op_eqU hr.units) (pv 0) pe_int (nomark _)) (pa_cons pe_bl pa_nil)))))) (nomark _)) (pss_one (ps_ret pe_bl)) pss_nil)
 (pss_cons (ps_if (pt_val (pe_callB (show CallR _ (.builtin "isinstance") (RIsi K) from call_isiU) (by rfl) T.n_isinstance boot_isinstance (pa_cons (pv 1) (pa_cons (pe_bltn (v := .ty "list") (by rfl) T.n_list boot_list rfl) pa_nil)))) (pss_one (ps_expr (pe_bm PySem.F.plainAttrs_list PySem.F.slot_list_append PySem.F.type_list_append mt_append (pv 1) (pa_cons (pv 0) pa_nil)))) pss_nil)
 (pss_cons (ps_if (pt_val (pe_callB (show CallR _ (.builtin "isinstance") (RIsi K) from call_isiU) (by rfl) T.n_isinstance boot_isinstance (pa_cons (pv 1) (pa_cons (pe_bltn (v := .ty "dict") (by rfl) T.n_dict boot_dict rfl) pa_nil)))) (pss_one (ps_dput (by exact hu1 hr) (pv 1) (pv 0) pe_str rfl)) pss_nil)
 (pss_one (ps_ret (pe_and (pe_cmpR (op_eqU hr.units) (pe_callB (show CallR _ (.builtin "repr") (RShw K) from call_reprS hgu hr T.sys) (by rfl) T.n_repr boot_repr (pa_cons (pv 4) pa_nil)) (pe_callB (show CallR _ (.builtin "repr") (RShw K) from call_reprS hgu hr T.sys) (by rfl) T.n_repr boot_repr (pa_cons (pv 1) pa_nil)) (nomark _)) (pe_one (pe_cmpR (op_eqU hr.units) (pe_callB (show CallR _ (.builtin "repr") (RShw K) from call_reprS hgu hr T.sys) (by rfl) T.n_repr boot_repr (pa_cons (pv 6) pa_nil)) (pe_callB (show CallR _ (.builtin "repr") (RShw K) from call_reprS hgu hr T.sys) (by rfl) T.n_repr boot_repr (pa_cons (pv 2) pa_nil)) (nomark _)))))))))))), ?_⟩)
  · obtain ⟨w, u, v, C1, C2, R, D, rfl, _⟩ := h
    rfl
  · obtain ⟨w, u, v, C1, C2, R, D, rfl, hI, w0, w12, tu, tv, go⟩ := h
    have kk := kindsOf T w0 w12
    have ff := famsOf T w0 w12
    have EE := excOf T w0 w12
    walk_at "go"
    walk_at "sn"
    refine madeX_use hI w0 w12 (fun p1 a1 d1 t1 f1 H1 D1 hI1 x1 e1 ea1 ed1 => ?_)
    walk_at "sn"
    refine madeX_use hI1 w0 w12 (fun p2 a2 d2 t2 f2 H2 D2 hI2 x2 e2 ea2 ed2 => ?_)
    have i1 : IsX K D2 a1 (cl K w) (some d1) t1 := ⟨x2 _ _ ea1, fun y e => by cases e; exact ⟨_, x2 _ _ ed1⟩, EE⟩
    have i2 : IsX K D2 a2 (cl K w) (some d2) t2 := ⟨ea2, fun y e => by cases e; exact ⟨_, ed2⟩, EE⟩
    have tu2 := tu.mono (x1.trans x2)
    have tv2 := tv.mono (x1.trans x2)
    have x02 := x1.trans x2
    have e12 := x2 _ _ e1
    clear e1 ea1 ed1 ea2 ed2 tu tv x1 x2 hI hI1
    walk_at "sn"
    refine kinds_use hI2 i1 kk (fun p3 H3 D3 hI3 x3 e3 => ?_)
    walk_at "sn"
    refine lc_rng (fun k acc R' D' => R' = C1 ++ (C2 ++ R) ∧ D' = D3 ∧ acc = (List.range k).map fun (q : Nat) => V.bl (decide ((q : Int) = w))) hI3 ⟨rfl, rfl, rfl⟩ (fun L k acc R' D' H' hk hI' q hl => ?_) (fun L acc R' D' H' hI' q hl => ?_)
    · obtain ⟨rfl, rfl, rfl⟩ := q
      walk_at "sn"
      refine le_mk hI' ⟨rfl, rfl, ?_⟩ hl (by omega)
      rw [List.range_succ, List.map_append, show (0 : Int) + (k : Int) = (k : Int) by omega]
      rfl
    obtain ⟨rfl, rfl, rfl⟩ := q
    obtain ⟨D4, hI4, x4, e4⟩ := hI'.fr1
    have sfb : ∀ v ∈ ((List.range 12).map fun (q : Nat) => V.bl (decide ((q : Int) = w))), Sf v := fun v hv => by
      obtain ⟨q, _, rfl⟩ := List.mem_map.mp hv
      exact .inl rfl
    refine .same (hI4.dat (x4 _ _ e3)) (hI4.dat e4) sfb ?_
    have x24 := x3.trans x4
    walk_at "sn"
    refine kinds_use hI4 (i2.mono x24) kk (fun p5 H5 D5 hI5 x5 e5 => ?_)
    walk_at "sn"
    refine kinds_use hI5 (i1.mono (x24.trans x5)) kk (fun p6 H6 D6 hI6 x6 e6 => ?_)
    refine .same (hI6.dat (x6 _ _ e5)) (hI6.dat e6) (fun v hv => sfb v hv) ?_
    have x26 := x24.trans (x5.trans x6)
    walk_at "sn"
    refine fams_use hI6 (i1.mono x26) ff (fun p7 H7 D7 hI7 x7 e7 => ?_)
    walk_at "sn"
    rename_i p8 H8 D8 hI8 x8 e8
    refine .same (hI8.dat (x8 _ _ e7)) (hI8.dat e8) (all_c (.inl rfl) (all_c (.inl rfl) (all_c (.inl rfl) (all_c (.inl rfl) (all_c (.inl rfl) all_n))))) ?_
    have x28 := x26.trans (x7.trans x8)
    have tu8 := tu2.mono x28
    have tv8 := tv2.mono x28
    have x08 := x02.trans x28
    have fin : ∀ (C1' : Cells) (H' : Hp), HI H' (C1' ++ (C2 ++ R)) D8 → Q (.bl true) H' := fun C1' H' h => go _ _ (h.sublist ((List.sublist_append_right C2 R).trans (List.sublist_append_right C1' _))) x08
    clear hI2 hI3 hI' hI4 hI5 hI6 hI7 i1 i2 tu2 tv2 x02 e12 e2 e3 e4 e5 e6 e7 e8 x3 x4 x5 x6 x7 x8 x24 x26 x28 hl sfb
    cases tu8 with
    | @dat v k kn nl nd sh =>
      walk_at "sn"
      obtain ⟨tx, mx, s1, l1, m1⟩ := sh.mono hI8.sub
      obtain ⟨ty, my, s2, l2, m2⟩ := tv8.sh hI8 (fun c hc => List.mem_append_right _ (List.mem_append_left _ hc))
      refine .s s1 (by omega) (by omega) ?_
      walk_at "sn"
      refine .s s1 (by omega) (by omega) ?_
      walk_at "sn"
      refine .s s2 (by omega) (by omega) ?_
      walk_at "sn"
      refine .s s2 (by omega) (by omega) ?_
      walk_at "sn"
      exact fin [] _ hI8
    | @lst p xs sh l =>
      walk_at "sn"
      rename_i H9 hI9
      have hI9 : HI H9 ([(p, HO.lst (xs ++ [V.int w]))] ++ (C2 ++ R)) D8 := hI9
      obtain ⟨tx, mx, s1, l1, m1⟩ : ShS K H9 (.ref p) 20000 10 := (ShS.lst (n := 2000) (k := 8) (hI9.get (List.mem_cons_self ..)) (ShLs.of fun v hv => by
        rcases List.mem_append.mp hv with h | h
        · exact (sh v h).mono hI9.sub
        · rw [List.mem_singleton.mp h]
          exact (ShS.int (Nat.lt_of_le_of_lt (by omega : w.natAbs ≤ 12) (by decide))).le (by decide) (by decide))).le (by rw [List.length_append]; simp only [List.length_cons, List.length_nil]; omega) (by decide)
      obtain ⟨ty, my, s2, l2, m2⟩ := tv8.sh hI9 (fun c hc => List.mem_append_right _ (List.mem_append_left _ hc))
      refine .s s1 (by omega) (by omega) ?_
      walk_at "sn"
      refine .s s1 (by omega) (by omega) ?_
      walk_at "sn"
      refine .s s2 (by omega) (by omega) ?_
      walk_at "sn"
      refine .s s2 (by omega) (by omega) ?_
      walk_at "sn"
      exact fin [(p, HO.lst (xs ++ [V.int w]))] _ hI9
    | @dict p kvs sh l =>
      walk_at "sn"
      rename_i H9 hI9
      have hI9 : HI H9 ([(p, HO.dK (putK kvs (Sum.inl w) (V.str (Str.ofString "more"))))] ++ (C2 ++ R)) D8 := hI9
      have lp := length_putK kvs (Sum.inl w) (V.str (Str.ofString "more"))
      obtain ⟨tx, mx, s1, l1, m1⟩ : ShS K H9 (.ref p) 20000 10 := (ShS.dict (n := 2000) (k := 8) (hI9.get (List.mem_cons_self ..)) (put_all (P := fun q => SmK q.1 ∧ ShS K H9 q.2 2000 8) (fun q hq => ⟨(sh q hq).1, (sh q hq).2.mono hI9.sub⟩) ⟨(Nat.lt_of_le_of_lt (by omega : w.natAbs ≤ 12) (by decide) : w.natAbs < 10 ^ 30), (ShS.str (z := Str.ofString "more") (sg_of rfl)).le (by decide) (by decide)⟩)).le (by omega) (by decide)
      obtain ⟨ty, my, s2, l2, m2⟩ := tv8.sh hI9 (fun c hc => List.mem_append_right _ (List.mem_append_left _ hc))
      refine .s s1 (by omega) (by omega) ?_
      walk_at "sn"
      refine .s s1 (by omega) (by omega) ?_
      walk_at "sn"
      refine .s s2 (by omega) (by omega) ?_
      walk_at "sn"
      refine .s s2 (by omega) (by omega) ?_
      walk_at "sn"
      exact fin [(p, HO.dK (putK kvs (Sum.inl w) (V.str (Str.ofString "more"))))] _ hI9
theorem rightX_use {K : PySem.W.Frag} {w : Int} {u v : V} {C1 C2 R : Cells} {D H : Hp} {Q : VK} {E : XK} (hI : HI H (C1 ++ (C2 ++ R)) D) (w0 : 0 ≤ w) (w12 : w < 12) (tu : Thg K D C1 u) (tv : Thg K D C2 v) (q : ∀ H' D', HI H' R D' → Ex D D' → Q (.bl true) H') : spRightX K [.int w, u, v] H Q E := ⟨w, u, v, C1, C2, R, D, rfl, hI, w0, w12, tu, tv, q⟩
end Wk

set_option maxRecDepth 100000
set_option maxHeartbeats 4000000
namespace Wk
open PySem PySem.Spec PyProof.Rows L2
local macro_rules | `(tactic| walk_at "mem") => `(tactic| first
  | exact List.mem_cons_self ..
  | exact List.mem_cons_of_mem _ (List.mem_cons_self ..)
  | exact List.mem_cons_of_mem _ (List.mem_cons_of_mem _ (List.mem_cons_self ..))
  | exact List.mem_cons_of_mem _ (List.mem_cons_of_mem _ (List.mem_cons_of_mem _ (List.mem_cons_self ..)))
  | exact List.mem_cons_of_mem _ (List.mem_cons_of_mem _ (List.mem_cons_of_mem _ (List.mem_cons_of_mem _ (List.mem_cons_self ..)))))
local macro_rules | `(tactic| walk_at "dat") => `(tactic| first
  | assumption
  | (refine Ex.of ?_ (by assumption); walk_at "dat"))
local macro_rules | `(tactic| walk_at "ex") => `(tactic| first
  | assumption
  | exact Ex.refl _
  | (refine Ex.trans ?_ (by assumption); walk_at "ex"))
local macro_rules | `(tactic| walk_at "hp") => `(tactic| first
  | assumption
  | exact HI.get (by assumption) (by walk_at "mem")
  | exact HI.dat (by assumption) (by walk_at "dat"))
local macro_rules | `(tactic| walk_at "hi") => `(tactic| first
  | assumption
  | exact HI.swap (by assumption)
  | exact HI.up2 (by assumption)
  | exact HI.up3 (by assumption))
local macro_rules | `(tactic| walk_at "num") => `(tactic| first
  | omega
  | decide
  | exact ⟨by decide, by decide⟩
  | exact cdiv_of (by omega) (by omega)
  | exact ⟨by omega, by omega⟩
  | (refine ⟨by omega, by omega, ?_⟩; omega)
  | exact Or.inl ⟨by omega, by omega⟩
  | exact Or.inr ⟨by omega, by omega⟩)
local macro_rules | `(tactic| walk_at "kn") => `(tactic| first
  | assumption
  | exact Kn.int _
  | exact Kn.str _
  | exact Kn.bl _
  | exact Kn.non
  | exact HI.kn (by assumption) (by assumption)
  | exact HI.kn (by assumption) (Kn.mono (by assumption) (by assumption))
  | exact Kn.lst (by walk_at "hp")
  | exact Kn.tup (by walk_at "hp")
  | exact Kn.dict (by walk_at "hp"))
local macro_rules | `(tactic| walk_at "s1") => `(tactic| first
  | with_reducible refine st_seq ?_
  | with_reducible refine st_asg ?_
  | with_reducible refine st_ret ?_
  | with_reducible refine st_if ?_
  | with_reducible refine st_drop ?_
  | with_reducible refine st_next ?_
  | with_reducible refine st_brk ?_
  | with_reducible refine st_cont ?_
  | with_reducible refine sg_name ?_
  | with_reducible refine sg_sub ?_
  | with_reducible refine sg_nil ?_
  | with_reducible refine sg_cons ?_
  | ((with_reducible refine' sg_tup ?e1 ?e2 ?_); (case e1 => exact SqT.of (by walk_at "hp")); (case e2 => rfl))
  | ((with_reducible refine' se_var ?e1 ?_); (case e1 => rfl))
  | with_reducible refine se_c ?_
  | with_reducible refine se_op ?_
  | with_reducible refine se_un ?_
  | with_reducible refine se_tup ?_
  | with_reducible refine se_lst ?_
  | with_reducible refine se_lstM ?_
  | with_reducible refine st_for ?_
  | with_reducible refine se_lc ?_
  | with_reducible refine it_rng1 ?_
  | with_reducible refine it_rng2 ?_
  | with_reducible refine it_list ?_
  | with_reducible refine it_str ?_
  | with_reducible refine strI_mk ?_
  | ((with_reducible refine' list_mk ?e1 ?_); (case e1 => walk_at "hp"))
  | ((with_reducible refine' rng1_mk ?e1 ?e2 ?_); (case e1 => omega); (case e2 => omega))
  | ((with_reducible refine' rng2_mk ?e1 ?_); (case e1 => omega))
  | with_reducible refine st_yes ?_
  | ((with_reducible refine' al_D ?e1 ?_); (case e1 => assumption); intro _ _ _ _ _ _)
  | ((with_reducible refine' al_M ?e1 ?_); (case e1 => assumption); intro _ _ _)
  | ((with_reducible refine' and_on ?e1 ?_); (case e1 => first | exact small_ok (Nat.le_of_ble_eq_true rfl) | rfl | omega))
  | with_reducible refine sa_nil ?_
  | with_reducible refine sa_cons ?_
  | with_reducible refine se_cb ?_
  | with_reducible refine se_if ?_
  | with_reducible refine st_test ?_
  | with_reducible refine st_B ?_
  | with_reducible refine st_bl ?_
  | with_reducible refine st_and ?_
  | with_reducible refine st_or ?_
  | with_reducible refine st_not ?_
  | with_reducible refine ri0_mk ?_
  | with_reducible refine ru_mk ?_
  | ((with_reducible refine' ri_mk ?e1 ?_); (case e1 => walk_at "num"))
  | with_reducible refine RAdd.int ?_
  | ((with_reducible refine' RMul.int ?e1 ?_); (case e1 => walk_at "num"))
  | with_reducible refine req_int ?_
  | with_reducible refine rne_int ?_
  | with_reducible refine req_str ?_
  | with_reducible refine rne_str ?_
  | ((with_reducible refine' RIx.l ?e1 ?e2 ?_); (case e1 => walk_at "hp"); (case e2 => rfl))
  | ((with_reducible refine' set_c ?e1 ?e2 ?_); (case e1 => assumption); (case e2 => rfl); intro _ _)
  | ((with_reducible refine' set_c2 ?e1 ?e2 ?_); (case e1 => assumption); (case e2 => rfl); intro _ _)
  | ((with_reducible refine' set_c3 ?e1 ?e2 ?_); (case e1 => assumption); (case e2 => rfl); intro _ _)
  | with_reducible refine iteT ?_
  | with_reducible refine iteF ?_
  | ((with_reducible refine' if_yes ?e1 ?_); (case e1 => omega))
  | ((with_reducible refine' if_no ?e1 ?_); (case e1 => omega))
  | ((with_reducible refine' if_yesN ?e1 ?_); (case e1 => omega))
  | ((with_reducible refine' if_noN ?e1 ?_); (case e1 => omega))
  | ((with_reducible refine' RIx.t ?e1 ?e2 ?_); (case e1 => walk_at "hp"); (case e2 => rfl))
  | with_reducible refine se_andV ?_
  | with_reducible refine se_orV ?_
  | with_reducible refine se_notV ?_
  | with_reducible refine se_chain ?_
  | with_reducible refine se_sl ?_
  | with_reducible refine so_none ?_
  | with_reducible refine so_some ?_
  | with_reducible refine so_int ?_
  | with_reducible refine se_m1 ?_
  | with_reducible refine se_m0 ?_
  | with_reducible refine m_str ?_
  | with_reducible refine se_mkE ?_
  | ((with_reducible refine' mkE_now ?e1 ?_); (case e1 => assumption); intro _ _ _ _ _ _ _ _)
  | with_reducible refine st_raiseX ?_
  | ((with_reducible refine' mkX_now ?e1 ?_); (case e1 => assumption); intro _ _ _ _ _ _)
  | with_reducible refine st_par ?_
  | with_reducible refine par_mk ?_
  | ((with_reducible refine' st_aug ?e1 ?_); (case e1 => rfl))
  | ((with_reducible refine' RIsi.ty ?e1 ?e2 ?_); (case e1 => walk_at "kn"); (case e2 => decide))
  | with_reducible refine ris_non ?_
  | with_reducible refine ris_nonN ?_
  | with_reducible refine ris_bl ?_
  | with_reducible refine ris_blN ?_
  | with_reducible refine rin_sign ?_
  | with_reducible refine rni_sign ?_
  | ((with_reducible refine' RLen.str ?e1 ?_); (case e1 => first | exact small_ok (by omega) | exact small_ok (Nat.le_of_ble_eq_true rfl)))
  | ((with_reducible refine' RLen.lst ?e1 ?_); (case e1 => walk_at "hp"))
  | ((with_reducible refine' RLen.frz ?e1 ?_); (case e1 => walk_at "hp"))
  | ((with_reducible refine' RLen.tup ?e1 ?_); (case e1 => walk_at "hp"))
  | (with_reducible refine RMx.mk ?_; intro _ _ _ _)
  | (with_reducible refine RMn.mk ?_; intro _ _ _ _)
  | with_reducible refine RStarts.mk ?_
  | with_reducible refine RFind.mk ?_
  | with_reducible refine RInt.bl ?_
  | ((with_reducible refine' RAll.mk ?e1 ?_); (case e1 => walk_at "hp")))
local macro_rules | `(tactic| walk_at "sx") => `(tactic| repeat (walk_at "s1"; try dsimp only [List.set, Int.reduceToNat]))
local macro_rules | `(tactic| walk_at "go") => `(tactic| (dsimp only [cxOf, L2.start, List.map, List.length, List.replicate, Nat.reduceAdd, Nat.reduceSub, List.replicate, HAppend.hAppend, Append.append, List.append]; walk_at "sx"))
local macro_rules | `(tactic| walk_at "sxm") => `(tactic| repeat (first | ((with_reducible refine' mod_let ?e1 ?_); (case e1 => omega); intro _ _ _) | walk_at "s1"; try dsimp only [List.set, Int.reduceToNat]))
local macro_rules | `(tactic| walk_at "go0") => `(tactic| dsimp only [cxOf, L2.start, List.map, List.length, List.replicate, Nat.reduceAdd, Nat.reduceSub, List.replicate, HAppend.hAppend, Append.append, List.append])

local macro_rules | `(tactic| walk_at "s2") => `(tactic| first
  | walk_at "s1"
  | with_reducible refine se_call1 ?_
  | with_reducible refine se_callN ?_
  | with_reducible refine se_dnewK ?_
  | ((with_reducible refine' se_disp ?e1 ?_); (case e1 => assumption); intro _ _ _)
  | with_reducible refine sp_cons ?_
  | with_reducible refine sp_nil ?_
  | ((with_reducible refine' disp_now ?e1 ?e2 ?e3 ?_); (case e1 => assumption); (case e2 => rfl); (case e3 => exact Nat.le_of_ble_eq_true rfl); intro _ _ _ _ _)
  | ((with_reducible refine' RAdd.lst ?e1 ?e2 ?e3 ?_); (case e1 => walk_at "hp"); (case e2 => walk_at "hp"); (case e3 => exact small_ok (Nat.le_of_ble_eq_true rfl)))
  | ((with_reducible refine' RMul.lst ?e1 ?e2 ?e3 ?e4 ?_); (case e1 => walk_at "hp"); (case e2 => omega); (case e3 => omega); (case e4 => exact small_ok (Nat.le_of_ble_eq_true rfl)))
  | ((with_reducible refine' RStr.int ?e1 ?_); (case e1 => exact log2_small (by omega)))
  | ((with_reducible refine' RSl.str ?e1 ?_); (case e1 => first | exact small_ok (by omega) | exact small_ok (Nat.le_of_ble_eq_true rfl)))
  | ((with_reducible refine' RAdd.str ?e1 ?_); (case e1 => exact small_ok (by omega)))
  | ((with_reducible refine' take_now ?e1 ?e2 ?e3 ?e4 ?e5 ?_); (case e1 => walk_at "hi"); (case e2 => omega); (case e3 => omega); (case e4 => assumption); (case e5 => omega); intro _ _ _ _ _ _ _ _ _))
local macro_rules | `(tactic| walk_at "sy") => `(tactic| repeat (walk_at "s2"; try dsimp only [List.set, Int.reduceToNat]))
local macro_rules | `(tactic| walk_at "sz1") => `(tactic| first
  | ((with_reducible refine' rsl_some ?e1 ?e2 ?_); (case e1 => omega); (case e2 => assumption); intro _ _ _)
  | ((with_reducible refine' radd_some ?e1 ?e2 ?e3 ?_); (case e1 => omega); (case e2 => assumption); (case e3 => assumption); intro _ _ _)
  | ((with_reducible refine' rmul_some ?e1 ?e3 ?e4 ?e5 ?_); (case e1 => rfl); (case e3 => omega); (case e4 => omega); (case e5 => exact sg_of rfl); intro _ _ _)
  | walk_at "s2")
local macro_rules | `(tactic| walk_at "sz") => `(tactic| repeat (walk_at "sz1"; try dsimp only [List.set, Int.reduceToNat]))

local macro_rules | `(tactic| walk_at "s3") => `(tactic| first
  | walk_at "s2"
  | with_reducible refine se_fld ?_
  | with_reducible refine st_fld ?_
  | ((with_reducible refine' fld_mk ?e1 ?e2 ?e3 ?e4 ?_); (case e1 => walk_at "hp"); (case e2 => assumption); (case e3 => walk_at "mem"); (case e4 => rfl))
  | ((with_reducible refine' sfld_now ?e1 ?e2 ?e3 ?e4 ?_); (case e1 => walk_at "hi"); (case e2 => assumption); (case e3 => walk_at "mem"); (case e4 => exact Nat.lt_of_lt_of_le (Nat.lt_succ_self _) (Nat.le_of_ble_eq_true rfl)); intro _ _)
  | with_reducible refine se_meth ?_
  | with_reducible refine se_methN ?_
  | ((with_reducible refine' meth_mk ?e1 ?e2 ?_); (case e1 => walk_at "hp"); (case e2 => rfl))
  | with_reducible refine se_make ?_
  | with_reducible refine se_makeN ?_
  | ((with_reducible refine' make_now ?e1 ?_); (case e1 => assumption); intro _ _ _ _)
  | with_reducible refine se_fmt ?_
  | ((with_reducible refine' RFmt.str ?e1 ?_); (case e1 => omega))
  | ((with_reducible refine' RFmt.int ?e1 ?_); (case e1 => exact log2_small (by omega)))
  | with_reducible refine sj_nil ?_
  | with_reducible refine sj_cons ?_
  | ((with_reducible refine' js_mk ?e1 ?_); (case e1 => omega))
  | ((with_reducible refine' and_on ?e1 ?_); (case e1 => exact small_ok (by simp only [len_app]; omega))))
local macro_rules | `(tactic| walk_at "sc") => `(tactic| repeat (walk_at "s3"; try dsimp only [List.set, Int.reduceToNat]))

local macro_rules | `(tactic| walk_at "s4") => `(tactic| first
  | walk_at "s3"
  | with_reducible refine se_bm ?_
  | with_reducible refine se_bm0 ?_
  | ((with_reducible refine' bm_ty ?e1 ?_); (case e1 => walk_at "hp"))
  | ((with_reducible refine' app_now ?e1 ?e2 ?_); (case e1 => walk_at "hi"); (case e2 => first | omega | exact Nat.lt_of_lt_of_le (Nat.lt_succ_self _) (Nat.le_of_ble_eq_true rfl)); intro _ _))
local macro_rules | `(tactic| walk_at "sd") => `(tactic| repeat (walk_at "s4"; try dsimp only [List.set, Int.reduceToNat]))

local macro_rules | `(tactic| walk_at "s5") => `(tactic| first
  | with_reducible refine rne_same ?_
  | with_reducible refine req_same ?_
  | walk_at "s4"
  | ((with_reducible refine' if_kT ?e1 ?_); (case e1 => first | assumption | rfl))
  | ((with_reducible refine' if_kF ?e1 ?_); (case e1 => first | assumption | rfl))
  | ((with_reducible refine' if_nkT ?e1 ?_); (case e1 => first | assumption | rfl))
  | ((with_reducible refine' if_nkF ?e1 ?_); (case e1 => first | assumption | rfl))
  | ((with_reducible refine' if_tagF ?e1 ?_); (case e1 => rfl))
  | ((with_reducible refine' if_tagN ?e1 ?_); (case e1 => rfl))
  | ((with_reducible refine' if_yes ?e1 ?_); (case e1 => with_reducible rfl))
  | ((with_reducible refine' if_yesN ?e1 ?_); (case e1 => with_reducible rfl))
  | with_reducible refine if_notT ?_
  | with_reducible refine if_notF ?_
  | with_reducible refine it_zip ?_
  | with_reducible refine it_enum ?_
  | with_reducible refine it_tup ?_
  | ((with_reducible refine' zip_mk ?e1 ?e2 ?_); (case e1 => walk_at "hp"); (case e2 => walk_at "hp"))
  | ((with_reducible refine' enum_mk ?e1 ?_); (case e1 => walk_at "hp"))
  | ((with_reducible refine' tupI_mk ?e1 ?_); (case e1 => walk_at "hp"))
  | with_reducible refine st_try ?_
  | with_reducible refine se_by ?_
  | ((with_reducible refine' RTupO.l ?e1 ?_); (case e1 => walk_at "hp"))
  | ((with_reducible refine' RListO.l ?e1 ?_); (case e1 => walk_at "hp"))
  | ((with_reducible refine' RListO.t ?e1 ?_); (case e1 => walk_at "hp"))
  | ((with_reducible refine' RListM.l ?e1 ?_); (case e1 => walk_at "hp")))
local macro_rules | `(tactic| walk_at "se") => `(tactic| repeat (walk_at "s5"; try dsimp only [List.set, Int.reduceToNat]))
local macro_rules | `(tactic| walk_at "sl") => `(tactic| first
  | exact List.Sublist.refl _
  | (refine List.Sublist.cons₂ _ ?_; walk_at "sl")
  | (refine List.Sublist.cons _ ?_; walk_at "sl"))
local macro_rules | `(tactic| walk_at "keep") => `(tactic| exact HI.sublist (by assumption) (by walk_at "sl"))

local macro_rules | `(tactic| walk_at "s6") => `(tactic| first
  | walk_at "s5"
  | with_reducible refine se_dget2 ?_
  | with_reducible refine ip_mk ?_
  | with_reducible refine se_dnewM ?_
  | with_reducible refine se_dget1 ?_
  | ((with_reducible refine' dg_mk ?e1 ?_); (case e1 => walk_at "hp"))
  | ((with_reducible refine' dq_i ?e1 ?_); (case e1 => walk_at "hp"))
  | ((with_reducible refine' dq_s ?e1 ?_); (case e1 => walk_at "hp"))
  | with_reducible refine se_dsub ?_
  | with_reducible refine se_din ?_
  | with_reducible refine se_dni ?_
  | ((with_reducible refine' di_i ?e1 ?_); (case e1 => walk_at "hp"))
  | ((with_reducible refine' di_s ?e1 ?_); (case e1 => walk_at "hp"))
  | with_reducible refine st_dput ?_
  | ((with_reducible refine' dp_i ?e1 ?e2 ?_); (case e1 => walk_at "hi"); (case e2 => omega); intro _ _)
  | ((with_reducible refine' dp_s ?e1 ?e2 ?_); (case e1 => walk_at "hi"); (case e2 => omega); intro _ _)
  | with_reducible refine se_dpop1 ?_
  | with_reducible refine it_seq ?_
  | ((with_reducible refine' seq_l ?e1 ?_); (case e1 => walk_at "hp"))
  | ((with_reducible refine' seq_t ?e1 ?_); (case e1 => walk_at "hp")))
local macro_rules | `(tactic| walk_at "sg") => `(tactic| repeat (walk_at "s6"; try dsimp only [List.set, Int.reduceToNat]))

local macro_rules | `(tactic| walk_at "s7") => `(tactic| first
  | walk_at "s6"
  | with_reducible refine st_augS ?_
  | with_reducible refine se_revL ?_
  | ((with_reducible refine' rv_mk ?e1 ?_); (case e1 => walk_at "hp"))
  | ((with_reducible refine' RGetL.l ?e1 ?e2 ?e3 ?_); (case e1 => walk_at "hp"); (case e2 => omega); (case e3 => assumption)))
local macro_rules | `(tactic| walk_at "sh") => `(tactic| repeat (walk_at "s7"; try dsimp only [List.set, Int.reduceToNat]))

local macro_rules | `(tactic| walk_at "s8") => `(tactic| first
  | walk_at "s7"
  | with_reducible refine se_fmtO ?_)
local macro_rules | `(tactic| walk_at "si") => `(tactic| repeat (walk_at "s8"; try dsimp only [List.set, Int.reduceToNat]))

local macro_rules | `(tactic| walk_at "hi") => `(tactic| exact HI.up4 (by assumption))
local macro_rules | `(tactic| walk_at "s9") => `(tactic| first
  | ((with_reducible refine' disp_nowM ?e1 ?e2 ?e3 ?_); (case e1 => assumption); (case e2 => rfl); (case e3 => exact Nat.le_of_ble_eq_true rfl); intro _ _)
  | walk_at "s8"
  | with_reducible refine st_par3 ?_
  | with_reducible refine par3_mk ?_
  | with_reducible refine se_mkQ ?_
  | ((with_reducible refine' mkQ_now ?e1 ?_); (case e1 => assumption); intro _ _ _ _ _ _ _ _ _ _)
  | ((with_reducible refine' se_dispM ?e1 ?_); (case e1 => assumption); intro _ _ _))
local macro_rules | `(tactic| walk_at "sj") => `(tactic| repeat (walk_at "s9"; try dsimp only [List.set, Int.reduceToNat]))

local macro_rules | `(tactic| walk_at "s11") => `(tactic| first
  | walk_at "s9"
  | with_reducible refine it_enumF ?_
  | ((with_reducible refine' enumF_mk ?e1 ?e2 ?_); (case e1 => walk_at "hp"); (case e2 => decide))
  | with_reducible refine it_rng3 ?_
  | ((with_reducible refine' rng3_dn ?e1 ?_); (case e1 => omega))
  | with_reducible refine it_items ?_)
local macro_rules | `(tactic| walk_at "sm") => `(tactic| repeat (walk_at "s11"; try dsimp only [List.set, Int.reduceToNat]))

local macro_rules | `(tactic| walk_at "s12") => `(tactic| first
  | walk_at "s11"
  | with_reducible refine se_lrg ?_
  | ((with_reducible refine' lrg_mk ?e1 ?_); (case e1 => exact RgOk.of_le (by omega) (by omega) (by omega) (by omega))))
local macro_rules | `(tactic| walk_at "sn") => `(tactic| repeat (walk_at "s12"; try dsimp only [List.set, Int.reduceToNat]))

open XG
theorem thing_use {K : PySem.W.Frag} {b : Addr} {R : Cells} {D H : Hp} {x y z : Int} {n : Nat} {Q : VK} {E : XK} (hI : HI H ((b, bx x y z) :: R) D) (bo : BoxOk n x y z) (hn : n + 100 < 1000000)
  (q : ∀ v C x' y' z' n' H' D', HI H' ((b, bx x' y' z') :: (C ++ R)) D' → Ex D D' → BoxOk n' x' y' z' → n' ≤ n + 3 → Thg K D' C v → Q v H') : spThing K ([.ref b] ++ []) H Q E := ⟨b, R, D, x, y, z, n, rfl, hI, bo, hn, q⟩
def spTexts (K : PySem.W.Frag) : Sp := fun vs H Q _ => ∃ (z : Str) (R : Cells) (D : Hp), vs = [.str z] ∧ HI H R D ∧ ∀ H' D', HI H' R D' → Ex D D' → Q (.bl true) H'
set_option maxHeartbeats 2000000 in
theorem ok_l_texts {P : Program} {w : World} {K : PySem.W.Frag} {mg : Str → Option Value} {base : Heap} (T : Tx K mg) : FnG P w K mg base 4 (a_l_texts K) ["text"] (spTexts K) := by
  refine T.f_l_texts.ok sc_l_texts (fun vs H Q E h => ?_) (fun cdv A outer s H vs Q E hgu hr h => ⟨_, (pss_cons (ps_par (i := 1) (j := 2) (by rfl) sc_l_texts.nd rfl rfl (by decide) rfl rfl (pa_cons (XG.pe_mkB T.y_WeekError rfl (pa_cons (pv 0) pa_nil)) (pa_cons (XG.pe_mkB T.y_MissError rfl (pa_cons (pv 0) pa_nil)) pa_nil)) (by rfl))
 (pss_cons (ps_if (PW.pt (pw_or (pt_cmpR op_inU pe_bl (pe_op op_addU (ge_call (ok_l_kinds T) hgu (hr.mono (by decide)) rfl T.g_l_kinds T.k_l_kinds T.b_l_kinds .nil (fun _ => pass_takes (takes_of rfl rfl rfl rfl)) (pa_cons (pv 1) pa_nil)) (ge_call (ok_l_kinds T) hgu (hr.mono (by decide)) rfl T.g_l_kinds T.k_l_kinds T.b_l_kinds .nil (fun _ => pass_takes (takes_of rfl rfl rfl rfl)) (pa_cons (pv 2) pa_nil))) (by rfl)) (pw_or1 (pt_cmpR (op_neI hr.units) (pe_lst (pa_cons (pe_callTy (show CallR _ (.type "str") (XG.RStrX K) from XG.call_strX hr) (by rfl) T.n_str boot_str (pa_cons (pv 1) pa_nil)) (pa_cons (pe_callTy (show CallR _ (.type "str") (XG.RStrX K) from XG.call_strX hr) (by rfl) T.n_str boot_str (pa_cons (pv 2) pa_nil)) pa_nil))) (pe_lst (pa_cons (pv 0) (pa_cons (pv 0) pa_nil))) (nomark _))))) (pss_one (ps_ret pe_bl)) pss_nil)
 (pss_cons (ps_if (pt_cmpR (op_neI hr.units) (ge_call (ok_l_families T) hgu (hr.mono (by decide)) rfl T.g_l_families T.k_l_families T.b_l_families .nil (fun _ => pass_takes (takes_of rfl rfl rfl rfl)) (pa_cons (pv 1) pa_nil)) (pe_lst (pa_cons pe_bl (pa_cons pe_bl (pa_cons pe_bl (pa_cons pe_bl (pa_cons pe_bl pa_nil)))))) (nomark _)) (pss_one (ps_ret pe_bl)) pss_nil)
 (pss_one (ps_ret (pe_cmpR (op_eqI hr.units) (ge_call (ok_l_families T) hgu (hr.mono (by decide)) rfl T.g_l_families T.k_l_families T.b_l_families .nil (fun _ => pass_takes (takes_of rfl rfl rfl rfl)) (pa_cons (pv 2) pa_nil)) (pe_lst (pa_cons pe_bl (pa_cons pe_bl (pa_cons pe_bl (pa_cons pe_bl (pa_cons pe_bl pa_nil)))))) (nomark _))))))), ?_⟩)
  · obtain ⟨z, R, D, rfl, _⟩ := h
    rfl
  · obtain ⟨z, R, D, rfl, hI, go⟩ := h
    have k1 : KindsAre K (He.ga K "WeekError") false false false false false false false false false false false false := ⟨T.ki_WeekError_NoName, T.ki_WeekError_NoNumber, T.ki_WeekError_NoSort, T.ki_WeekError_NoYear, T.ki_WeekError_NoWeek, T.ki_WeekError_NoRow, T.ki_WeekError_NoStay, T.ki_WeekError_NoRests, T.ki_WeekError_NoList, T.ki_WeekError_Doubled, T.ki_WeekError_TooMany, T.ki_WeekError_NotThere⟩
    have k2 : KindsAre K (He.ga K "MissError") false false false false false false false false false false false false := ⟨T.ki_MissError_NoName, T.ki_MissError_NoNumber, T.ki_MissError_NoSort, T.ki_MissError_NoYear, T.ki_MissError_NoWeek, T.ki_MissError_NoRow, T.ki_MissError_NoStay, T.ki_MissError_NoRests, T.ki_MissError_NoList, T.ki_MissError_Doubled, T.ki_MissError_TooMany, T.ki_MissError_NotThere⟩
    have f1 : FamsAre K (He.ga K "WeekError") true true false false false := ⟨T.ki_WeekError_WeekError, T.kv_WeekError_ValueError, T.ki_WeekError_MissError, T.kv_WeekError_LookupError, T.kv_WeekError_KeyError⟩
    have f2 : FamsAre K (He.ga K "MissError") false false true true false := ⟨T.ki_MissError_WeekError, T.kv_MissError_ValueError, T.ki_MissError_MissError, T.kv_MissError_LookupError, T.kv_MissError_KeyError⟩
    walk_at "go"
    walk_at "sn"
    refine se_mkB ?_
    walk_at "sn"
    refine mkB_now hI (fun a1 t1 H1 D1 hI1 x1 ea1 et1 => ?_)
    walk_at "sn"
    refine se_mkB ?_
    walk_at "sn"
    refine mkB_now hI1 (fun a2 t2 H2 D2 hI2 x2 ea2 et2 => ?_)
    have i1 : IsX K D2 a1 (He.ga K "WeekError") none t1 := ⟨x2 _ _ ea1, (fun y e => nomatch e), T.y_WeekError.E⟩
    have i2 : IsX K D2 a2 (He.ga K "MissError") none t2 := ⟨ea2, (fun y e => nomatch e), T.y_MissError.E⟩
    have et12 := x2 _ _ et1
    walk_at "sn"
    refine kinds_use hI2 i1 k1 (fun p3 H3 D3 hI3 x3 e3 => ?_)
    walk_at "sn"
    refine kinds_use hI3 (i2.mono x3) k2 (fun p4 H4 D4 hI4 x4 e4 => ?_)
    walk_at "sn"
    rename_i p5 H5 D5 hI5 x5 e5
    refine rin_lst (hI5.dat e5) rfl rfl ?_
    rw [show (inV (.bl true) ([V.bl false, V.bl false, V.bl false, V.bl false, V.bl false, V.bl false, V.bl false, V.bl false, V.bl false, V.bl false, V.bl false, V.bl false] ++ [V.bl false, V.bl false, V.bl false, V.bl false, V.bl false, V.bl false, V.bl false, V.bl false, V.bl false, V.bl false, V.bl false, V.bl false])) = false from rfl]
    have x25 := x3.trans (x4.trans x5)
    walk_at "sn"
    refine .x (hI5.dat (x25 _ _ (x2 _ _ ea1))) (hI5.dat (x25 _ _ et12)) T.y_WeekError.st T.y_WeekError.E.hs ?_
    walk_at "sn"
    refine .x (hI5.dat (x25 _ _ ea2)) (hI5.dat (x25 _ _ et2)) T.y_MissError.st T.y_MissError.E.hs ?_
    walk_at "sn"
    rename_i p6 H6 D6 hI6 x6 e6 p7 H7 D7 hI7 x7 e7
    have sfs : ∀ v ∈ [V.str z, V.str z], Sf v := all_c (.inl rfl) (all_c (.inl rfl) all_n)
    refine .same (hI7.dat (x7 _ _ e6)) (hI7.dat e7) sfs ?_
    have x27 := x25.trans (x6.trans x7)
    have j1 := i1.mono x27
    have j2 := i2.mono x27
    have x07 := x1.trans (x2.trans x27)
    clear x25 x27 x3 x4 x5 x6 x7 i1 i2 e3 e4 e5 e6 e7 hI1 hI2 hI3 hI4 hI5 hI6 x1 x2
    walk_at "sn"
    refine fams_use hI7 j1 f1 (fun p8 H8 D8 hI8 x8 e8 => ?_)
    walk_at "sn"
    rename_i p9 H9 D9 hI9 x9 e9
    refine .same (hI9.dat (x9 _ _ e8)) (hI9.dat e9) (all_c (.inl rfl) (all_c (.inl rfl) (all_c (.inl rfl) (all_c (.inl rfl) (all_c (.inl rfl) all_n))))) ?_
    walk_at "sn"
    refine fams_use hI9 (j2.mono (x8.trans x9)) f2 (fun p10 H10 D10 hI10 x10 e10 => ?_)
    walk_at "sn"
    rename_i p11 H11 D11 hI11 x11 e11
    refine .same (hI11.dat (x11 _ _ e10)) (hI11.dat e11) (all_c (.inl rfl) (all_c (.inl rfl) (all_c (.inl rfl) (all_c (.inl rfl) (all_c (.inl rfl) all_n))))) ?_
    walk_at "sn"
    exact go _ _ hI11 (x07.trans (x8.trans (x9.trans (x10.trans x11))))
def spLaw : Sp := fun vs H Q _ => ∃ (l : Addr) (o : Obj) (ns : List Int) (R : Cells) (D : Hp), vs = [.ref l] ∧ HI H R D ∧ D l = some (.frz o (.lst (ns.map V.int))) ∧ ∀ H', Q (.bl true) H'
set_option maxHeartbeats 4000000 in
theorem ok_law {P : Program} {w : World} {K : PySem.W.Frag} {mg : Str → Option Value} {base : Heap} (T : Tx K mg) : FnG P w K mg base 7 (a_law K) ["script"] spLaw := by
  refine T.f_law.ok sc_law (fun vs H Q E h => ?_) (fun cdv A outer s H vs Q E hgu hr h => ⟨_, (pss_cons (ps_for (passes_of rfl) rfl (pi_range1 rfl T.n_range (pa_cons (pe_callB (call_maxU rfl) (by rfl) T.n_max boot_max (pa_cons pe_int (pa_cons (pe_callB (call_minU rfl) (by rfl) T.n_min boot_min (pa_cons pe_int (pa_cons (pe_callB (call_lenU) (by rfl) T.n_len boot_len (pa_cons (pv 0) pa_nil)) pa_nil))) pa_nil))) pa_nil)) (pg_name (i := 1) sc_law.nd rfl (Or.inl rfl)) (pss_cons (ps_set (i := 2) sc_law.nd rfl (Or.inl rfl) (ge_call (ok_l_box T) hgu (hr.mono (by decide)) rfl T.g_l_box T.k_l_box T.b_l_box .nil (fun _ => pass_takes (takes_of rfl rfl rfl rfl)) (pa_cons (ge_call (ok_l_cell T) hgu (hr.mono (by decide)) rfl T.g_l_cell T.k_l_cell T.b_l_cell .nil (fun _ => pass_takes (takes_of rfl rfl rfl rfl)) (pa_cons (pv 0) (pa_cons (pv 1) pa_nil))) pa_nil)))
 (pss_cons (ps_if (pt_not (pt_val (ge_call (ok_l_texts T) hgu (hr.mono (by decide)) rfl T.g_l_texts T.k_l_texts T.b_l_texts .nil (fun _ => pass_takes (takes_of rfl rfl rfl rfl)) (pa_cons (pe_ix ix_U (pe_lst (pa_cons pe_str (pa_cons pe_str (pa_cons (pe_callTy call_strU (by rfl) T.n_str boot_str (pa_cons (ge_call (ok_l_take T) hgu (hr.mono (by decide)) rfl T.g_l_take T.k_l_take T.b_l_take .nil (fun _ => pass_takes (takes_of rfl rfl rfl rfl)) (pa_cons (pv 2) (pa_cons (pe_op op_pow pe_int pe_int) pa_nil))) pa_nil)) (pa_cons pe_str pa_nil))))) (ge_call (ok_l_take T) hgu (hr.mono (by decide)) rfl T.g_l_take T.k_l_take T.b_l_take .nil (fun _ => pass_takes (takes_of rfl rfl rfl rfl)) (pa_cons (pv 2) (pa_cons pe_int pa_nil))) (fun _ _ => rfl)) pa_nil)))) (pss_one (ps_ret pe_bl)) pss_nil)
 (pss_one (ps_for (passes_of rfl) rfl (pi_range1 rfl T.n_range (pa_cons pe_int pa_nil)) (pg_name (i := 3) sc_law.nd rfl (Or.inl rfl)) (pss_one (ps_if (pt_not (pt_val (ge_call (ok_l_right T) hgu (hr.mono (by decide)) rfl T.g_l_right T.k_l_right T.b_l_right .nil (fun _ => pass_takes (takes_of rfl rfl rfl rfl)) (pa_cons (pv 3) (pa_cons (ge_call (ok_l_thing T) hgu (hr.mono (by decide)) rfl T.g_l_thing T.k_l_thing T.b_l_thing .nil (fun _ => pass_takes (takes_of rfl rfl rfl rfl)) (pa_cons (pv 2) pa_nil)) (pa_cons (ge_call (ok_l_thing T) hgu (hr.mono (by decide)) rfl T.g_l_thing T.k_l_thing T.b_l_thing .nil (fun _ => pass_takes (takes_of rfl rfl rfl rfl)) (pa_cons (pv 2) pa_nil)) pa_nil)))))) (pss_one (ps_ret pe_bl)) pss_nil)))))))
 (pss_one (ps_ret pe_bl))), ?_⟩)
  · obtain ⟨l, o, ns, R, D, rfl, _⟩ := h
    rfl
  · obtain ⟨l, o, ns, R, D, rfl, hI, hl, go⟩ := h
    walk_at "go"
    walk_at "sn"
    refine for_rng (fun i σ R' D' => ∃ a1 a2 a3 : Option V, σ = [some (.ref l), a1, a2, a3] ∧ R' = R ∧ Ex D D') hI ⟨_, _, _, rfl, rfl, Ex.refl _⟩ (fun i σ R' D' H' hi hI' q => ?_) (fun σ R' D' H' hI' q => ?_)
    · obtain ⟨a1, a2, a3, rfl, hRR, x⟩ := q
      rw [hRR] at hI'
      walk_at "sn"
      refine cell_now hI' (by walk_at "dat") (by omega) (by omega) (fun c H5 hI5 => ?_)
      walk_at "sn"
      refine box_now hI5 (fun b xx yy H6 hI6 bo6 => ?_)
      walk_at "sn"
      rename_i rt x7 y7 z7 H7 hI7 bo7 rt0 rt1 pl H8 D8 hI8 x8 el r9 x9 y9 z9 H9 hI9 bo9 r90 r91
      refine RIx.pick (P := fun v => ∃ z, v = .str z) (hI9.dat el) (all_c ⟨_, rfl⟩ (all_c ⟨_, rfl⟩ (all_c ⟨_, rfl⟩ (all_c ⟨_, rfl⟩ all_n)))) r90 r91 (fun v hv => ?_)
      obtain ⟨z, rfl⟩ := hv
      walk_at "sn"
      refine ⟨z, _, _, rfl, hI9, fun H10 D10 hI10 x10 => ?_⟩
      have x010 := x.trans (x8.trans x10)
      clear x x8 x10 el
      walk_at "sn"
      refine for_rng (fun j σ R' D' => ∃ (a3 : Option V) (x y z : Int) (n' : Nat), σ = [some (.ref l), some (.int (0 + (i : Int))), some (.ref b), a3] ∧ R' = (b, bx x y z) :: R ∧ BoxOk n' x y z ∧ n' ≤ 2 + 10 * j ∧ Ex D10 D') hI10 ⟨_, _, _, _, _, rfl, rfl, bo9, by omega, Ex.refl _⟩ (fun j σ R' D' H' hj hI' q => ?_) (fun σ R' D' H' hI' q => ?_)
      · obtain ⟨a3, x, y, z, n', rfl, rfl, bo', hn', xq⟩ := q
        walk_at "sn"
        refine thing_use hI' bo' (by omega) (fun u C1 x11 y11 z11 n11 H11 D11 hI11 xx11 bo11 hn11 tu => ?_)
        walk_at "sn"
        refine thing_use hI11 bo11 (by omega) (fun v C2 x12 y12 z12 n12 H12 D12 hI12 xx12 bo12 hn12 tv => ?_)
        walk_at "sn"
        have hP : HI H12 (C1 ++ (C2 ++ ((b, bx x12 y12 z12) :: R))) D12 := by
          refine hI12.perm ?_
          refine List.Perm.trans ?_ (List.Perm.append_left C1 (List.perm_middle (a := (b, bx x12 y12 z12)) (l₁ := C2) (l₂ := R))).symm
          refine List.Perm.trans ?_ (List.perm_middle (l₁ := C1)).symm
          exact List.Perm.cons _ (List.perm_append_comm_assoc C2 C1 R)
        refine rightX_use hP (by omega) (by omega) (tu.mono xx12) tv (fun H13 D13 hI13 x13 => ?_)
        walk_at "sn"
        exact ⟨_, _, hI13, _, _, _, _, _, rfl, rfl, bo12, by omega, xq.trans (xx11.trans (xx12.trans x13))⟩
      · obtain ⟨a3, x, y, z, n', rfl, rfl, bo', hn', xq⟩ := q
        exact ⟨_, _, hI'.drop, _, _, _, rfl, rfl, x010.trans xq⟩
    · obtain ⟨a1, a2, a3, rfl, hRR, x⟩ := q
      walk_at "sn"
      exact go _
end Wk

set_option maxRecDepth 100000
set_option maxHeartbeats 0
namespace Wk
open PySem PySem.Spec PyProof.Rows L2
theorem law_hc {q : Program} {loose : List Str} {XP : (Str → Option Value) → Heap → Prop} {d : DefRec} (hdf : d.params.defaults = []) (hnm : d.name = "law") : PySem.W.WalkO q loose XP hk.says (PySem.W.OpenLaw.row PySem.Challenge.rw_weekheads_k04_refusals_apart).toRowW d [] (fun f vs => PySem.call f vs) := by
  refine law_endG (l := PySem.Challenge.rw_weekheads_k04_refusals_apart) (n := 63) (k := 7) (x := "script") rfl (by decide) hdf ⟨rfl, by decide, by decide⟩ (fun w mg fa h Y G hmg => ?_)
  obtain ⟨K, X, c⟩ := Y
  have T : Tx K mg := ⟨c, h, X, G⟩
  rw [hnm] at hmg
  have e := hmg.symm.trans T.g_law
  cases e
  exact ⟨K, spLaw, X, T.nol, fun s u => FunD.bindsA (ps := ["script"]) T.f_law (fun _ _ _ _ _ _ us hl => match us, hl with | [_], _ => rfl) s [u] rfl, fun H a o ns hl hI ha => ⟨a, o, ns, [], H, rfl, hI, ha, fun _ => rfl⟩, fun base _ _ => ok_law T⟩
end Wk
theorem PySem.Challenge.cw_weekheads_k04_refusals_apart_holds : PySem.Challenge.rw_weekheads_k04_refusals_apart.Holds := by
  exact Wk.lawFin fun h1 h2 => Wk.law_hc h1 h2
