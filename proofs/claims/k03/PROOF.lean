import PyProof.Rows.All
import Wide.All
import OpenK.AllK
import Wide.FinOn
import KE.KStateDown
import HandS.ForExc
import HandS.Defaults
import HandS.Head0
import HandS.Head1
import HandS.Head2
import HandS.HeadEnd
import HandS.HeadHook1
import HandS.HeadHook2
import HandS.ForMost
import HandS.Wide
import HandS.IsInst
import HandS.Flow
import HandS.Evl
import PyProof.ReprRoads
import PyProof.CallFns
import HandS.Text
import HandS.Walk
import HandS.ExcInit
import HandS.ExcIs
import HandS.ExcOwn
import HandS.TryMany
import HandS.MakeKwOnly
import KE.KCallOwn
import OpenK.KOps
import HandS.FStr
import PySem.Challenge.RW_weekheads_k03_words_and_figures
import PyProof.StrLawsChain
import PyProof.StrLawsTight
import HandS.StrMore
import PyProof.StrLawsRepr
import PyProof.ReprLen
set_option Elab.async false
set_option linter.all false
set_option maxRecDepth 100000
set_option maxHeartbeats 4000000
/-! The head by a Hook of our own: the objects that the facts speak of are few, and picked by names. -/
namespace WA
open PySem PySem.Spec PyProof.Rows L2
/-- a name's value in a namespace, for picking alone -/
def nm (g : Addr → Option Obj) (n : Addr) (x : Str) : Option Value := (g n).bind fun o => match o.data with
  | .dict es _ => (es.toList.find? fun e => e.key.isStr x).map fun e => e.val
  | _ => none
def ad : Option Value → Addr
  | some (.ref a) => a
  | _ => 0
def adV : Value → List Addr
  | .ref a => [a]
  | _ => []
def nsOf (g : Addr → Option Obj) (C : Addr) : Addr := match g C with
  | some o => (match o.data with
    | .cls cd => cd.ns
    | _ => 0)
  | none => 0
def fnOf (g : Addr → Option Obj) (f : Addr) : List Addr := match g f with
  | some o => (match o.data with
    | .func fd => f :: (adV fd.code ++ adV fd.defaults)
    | _ => [f])
  | none => []
def atOf (g : Addr → Option Obj) (p : Str × Option Str) : Addr := match p.2 with
  | none => ad (nm g mainGlobals p.1)
  | some m => ad (nm g (nsOf g (ad (nm g mainGlobals p.1))) m)
/-- the objects that are looked at: the module's names, the classes, the defs -/
def pick (g : Addr → Option Obj) (cs : List Str) (fs : List (Str × Option Str)) : List Addr :=
  mainGlobals :: sysModules :: cStatics :: ((cs.flatMap fun x => [ad (nm g mainGlobals x), nsOf g (ad (nm g mainGlobals x))]) ++ fs.flatMap fun p => fnOf g (atOf g p))
/-- a list is laid open ahead of what follows -/
def openL {α : Type} : PySem.W.Frag → (PySem.W.Frag → α) → α
  | [], k => k []
  | (a, o) :: r, k => HandSHeadRun.frNat a fun a => openL r fun r => k ((a, o) :: r)
theorem openL_eq {α : Type} : ∀ (K : PySem.W.Frag) (k : PySem.W.Frag → α), openL K k = k K
  | [], k => rfl
  | (a, o) :: r, k => by
    show HandSHeadRun.frNat a (fun a => openL r fun r => k ((a, o) :: r)) = _
    rw [HandSHeadRun.frNat_eq, openL_eq r]
abbrev Fx := PySem.W.Frag → Bool
abbrev AlX : Type := Bool × List He.FnW
def obsX (fx : List Fx) (fn : List He.DefD) (K : PySem.W.Frag) : AlX := ((fx.all fun f => f K) && fn.all fun d => d.ok K, fn.map fun d => He.fnW K d.at_)
def valX (fn : List He.DefD) : AlX := (true, fn.map He.DefD.val)
def SaysX (fx : List Fx) (fn : List He.DefD) (K : PySem.W.Frag) : Prop := obsX fx fn K = valX fn
def obsXG (cs : List Str) (fx : List Fx) (fn : List He.DefD) (g : Addr → Option Obj) : AlX := openL (He.frG g (pick g cs (fn.map fun d => d.at_))) fun K => obsX fx fn K
def hookX (cs : List Str) (fx : List Fx) (fn : List He.DefD) : PySem.W.Hook where
  α := AlX
  obs := fun s => obsXG cs fx fn s.heap.get?
  val := fun _ => valX fn
  says := fun _ h => ∃ K : PySem.W.Frag, K.In h ∧ SaysX fx fn K
  of := fun _ _ e => ⟨_, He.frG_in, by
    unfold obsXG at e
    rw [openL_eq] at e
    exact e⟩
  keeps := fun _ _ _ ⟨K, X, c⟩ k => ⟨K, X.keeps k, c⟩
theorem obsXG_eq {cs : List Str} {fx : List Fx} {fn : List He.DefD} {g : Addr → Option Obj} {s : Shared} (h : ∀ a, g a = s.heap.get? a) : obsXG cs fx fn g = (hookX cs fx fn).obs s := by
  have e : g = s.heap.get? := funext h
  rw [e]
  rfl
section
variable {fx : List Fx} {fn : List He.DefD} {K : PySem.W.Frag}
theorem SaysX.two (c : SaysX fx fn K) : (∀ f ∈ fx, f K = true) ∧ (∀ d ∈ fn, d.ok K = true) ∧ fn.map (fun d => He.fnW K d.at_) = fn.map He.DefD.val := by
  have c1 : ((fx.all fun f => f K) && fn.all fun d => d.ok K) = true := congrArg Prod.fst c
  have c2 : fn.map (fun d => He.fnW K d.at_) = fn.map He.DefD.val := congrArg Prod.snd c
  obtain ⟨a, b⟩ := He.ba c1
  exact ⟨List.all_eq_true.mp a, List.all_eq_true.mp b, c2⟩
theorem SaysX.fact (c : SaysX fx fn K) (i : Nat) {f : Fx} (h : fx[i]? = some f := by rfl) : f K = true := c.two.1 f (List.mem_of_getElem? h)
theorem SaysX.def_ (c : SaysX fx fn K) (i : Nat) {d : He.DefD} (h : fn[i]? = some d := by rfl) : ∃ fd, FunD K d.name d.qual d.params d.body d.scope (d.dvs K) (d.kws K) (He.fAd K d.at_) fd := by
  obtain ⟨_, b, e⟩ := c.two
  have e1 : (fn.map fun d => He.fnW K d.at_)[i]? = (fn.map He.DefD.val)[i]? := by rw [e]
  rw [List.getElem?_map, List.getElem?_map, h] at e1
  exact He.DefD.funD (Option.some.inj e1) (b d (List.mem_of_getElem? h))
end
end WA

set_option maxRecDepth 100000
set_option maxHeartbeats 4000000
/-! The heap in two parts: cells R that may change, and data D that never changes again. -/
namespace Wk
open PySem PySem.Spec PyProof.Rows L2
structure HI (H : Hp) (R : List (Addr × HO)) (D : Hp) : Prop where
  nd : (R.map (·.1)).Nodup
  cell : ∀ p ∈ R, H p.1 = some p.2 ∧ D p.1 = none
  sub : ∀ a o, D a = some o → H a = some o
/-- more data -/
def Ex (D D' : Hp) : Prop := ∀ a o, D a = some o → D' a = some o
theorem Ex.refl (D : Hp) : Ex D D := fun _ _ h => h
theorem Ex.trans {D D1 D2 : Hp} (a : Ex D D1) (b : Ex D1 D2) : Ex D D2 := fun x o h => b x o (a x o h)
theorem Ex.new {D : Hp} {p : Addr} {o : HO} (h : D p = none) : Ex D (upd D p o) := fun a u e => by
  rw [upd_ne (ne_of_none e h)]
  exact e
section
variable {H D : Hp} {R : List (Addr × HO)} {a p : Addr} {o u : HO} {x y z : Addr × HO}
theorem HI.get (h : HI H R D) (m : (a, o) ∈ R) : H a = some o := (h.cell _ m).1
theorem HI.dat (h : HI H R D) (d : D a = some o) : H a = some o := h.sub a o d
theorem HI.free (h : HI H R D) (hp : H p = none) : D p = none := by
  cases q : D p with
  | none => rfl
  | some w =>
    rw [h.sub p w q] at hp
    cases hp
theorem HI.notin (h : HI H R D) (hp : H p = none) : p ∉ R.map (·.1) := fun m => by
  obtain ⟨q, hq, e⟩ := List.mem_map.mp m
  have := (h.cell q hq).1
  rw [e, hp] at this
  cases this
/-- a new cell -/
theorem HI.new (h : HI H R D) (hp : H p = none) : HI (upd H p o) ((p, o) :: R) D := by
  have nm := h.notin hp
  refine ⟨by rw [List.map_cons]; exact List.nodup_cons.mpr ⟨nm, h.nd⟩, fun q hq => ?_, fun b w e => ?_⟩
  · rcases List.mem_cons.mp hq with e | hq
    · rw [e]
      exact ⟨upd_same, h.free hp⟩
    · have ne : q.1 ≠ p := fun e => nm (List.mem_map.mpr ⟨q, hq, e⟩)
      rw [upd_ne ne]
      exact h.cell q hq
  · rw [upd_ne (ne_of_none (h.sub b w e) hp)]
    exact h.sub b w e
/-- new data -/
theorem HI.newD (h : HI H R D) (hp : H p = none) : HI (upd H p o) R (upd D p o) := by
  have nm := h.notin hp
  refine ⟨h.nd, fun q hq => ?_, fun b w e => ?_⟩
  · have ne : q.1 ≠ p := fun e => nm (List.mem_map.mpr ⟨q, hq, e⟩)
    rw [upd_ne ne, upd_ne ne]
    exact h.cell q hq
  · by_cases e2 : b = p
    · rw [e2, upd_same] at e ⊢
      exact e
    · rw [upd_ne e2] at e ⊢
      exact h.sub b w e
/-- a cell is changed -/
theorem HI.set (h : HI H ((a, o) :: R) D) : HI (upd H a u) ((a, u) :: R) D := by
  have nd : a ∉ R.map (·.1) := (List.nodup_cons.mp h.nd).1
  refine ⟨h.nd, fun q hq => ?_, fun b w e => ?_⟩
  · rcases List.mem_cons.mp hq with e | hq
    · rw [e]
      exact ⟨upd_same, (h.cell (a, o) (List.mem_cons_self ..)).2⟩
    · have ne : q.1 ≠ a := fun e => nd (List.mem_map.mpr ⟨q, hq, e⟩)
      rw [upd_ne ne]
      exact h.cell q (List.mem_cons_of_mem _ hq)
  · have ne : b ≠ a := fun e2 => by
      rw [e2, (h.cell (a, o) (List.mem_cons_self ..)).2] at e
      cases e
    rw [upd_ne ne]
    exact h.sub b w e
/-- a cell becomes data -/
theorem HI.freeze (h : HI H ((a, o) :: R) D) : HI H R (upd D a o) := by
  have nd : a ∉ R.map (·.1) := (List.nodup_cons.mp h.nd).1
  refine ⟨(List.nodup_cons.mp h.nd).2, fun q hq => ?_, fun b w e => ?_⟩
  · have ne : q.1 ≠ a := fun e => nd (List.mem_map.mpr ⟨q, hq, e⟩)
    rw [upd_ne ne]
    exact h.cell q (List.mem_cons_of_mem _ hq)
  · by_cases e2 : b = a
    · rw [e2, upd_same] at e
      cases e
      rw [e2]
      exact (h.cell (a, o) (List.mem_cons_self ..)).1
    · rw [upd_ne e2] at e
      exact h.sub b w e
theorem HI.freezeX (h : HI H ((a, o) :: R) D) : Ex D (upd D a o) := Ex.new (h.cell (a, o) (List.mem_cons_self ..)).2
/-- forgetting a cell -/
theorem HI.drop (h : HI H (x :: R) D) : HI H R D := ⟨(List.nodup_cons.mp h.nd).2, fun q hq => h.cell q (List.mem_cons_of_mem _ hq), h.sub⟩
theorem HI.perm {R' : List (Addr × HO)} (h : HI H R D) (p : R.Perm R') : HI H R' D :=
  ⟨(p.map (·.1)).nodup_iff.mp h.nd, fun q hq => h.cell q (p.mem_iff.mpr hq), h.sub⟩
theorem HI.swap (h : HI H (x :: y :: R) D) : HI H (y :: x :: R) D := h.perm (List.Perm.swap ..)
theorem HI.up2 (h : HI H (x :: y :: z :: R) D) : HI H (z :: x :: y :: R) D := h.perm (by
  refine List.Perm.trans (List.Perm.cons x (List.Perm.swap z y R)) ?_
  exact List.Perm.swap z x (y :: R))
theorem HI.dn2 (h : HI H (x :: y :: z :: R) D) : HI H (y :: z :: x :: R) D := h.perm (by
  refine List.Perm.trans (List.Perm.swap y x (z :: R)) ?_
  exact List.Perm.cons y (List.Perm.swap z x R))
theorem HI.new2 (h : HI H (x :: R) D) (hp : H p = none) : HI (upd H p o) (x :: (p, o) :: R) D := (h.new hp).swap
theorem HI.set2 (h : HI H (x :: (a, o) :: R) D) : HI (upd H a u) (x :: (a, u) :: R) D := h.swap.set.swap
theorem HI.set3 (h : HI H (x :: y :: (a, o) :: R) D) : HI (upd H a u) (x :: y :: (a, u) :: R) D := h.up2.set.dn2
theorem HI.freeze2 (h : HI H (x :: (a, o) :: R) D) : HI H (x :: R) (upd D a o) := h.swap.freeze
end
/-- a new object, data from now on; a new cell -/
def AlD (o : HO) (H : Hp) (Q : VK) : Prop := ∀ p, H p = none → Q (.ref p) (upd H p o)
def AlM (o : HO) (H : Hp) (Q : VK) : Prop := ∀ p, H p = none → Q (.ref p) (upd H p o)
theorem al_D {H D : Hp} {R : List (Addr × HO)} {o : HO} {Q : VK} (h : HI H R D) (k : ∀ p H' D', HI H' R D' → Ex D D' → D' p = some o → Q (.ref p) H') : AlD o H Q :=
  fun p hp => k p _ _ (h.newD hp) (Ex.new (h.free hp)) upd_same
theorem al_M {H D : Hp} {R : List (Addr × HO)} {o : HO} {Q : VK} (h : HI H R D) (k : ∀ p H', HI H' ((p, o) :: R) D → Q (.ref p) H') : AlM o H Q :=
  fun p hp => k p _ (h.new hp)
theorem HI.up3 {H D : Hp} {R : List (Addr × HO)} {x y z u : Addr × HO} (h : HI H (x :: y :: z :: u :: R) D) : HI H (u :: x :: y :: z :: R) D := h.perm (by
  refine List.Perm.trans (List.Perm.cons x (List.Perm.cons y (List.Perm.swap u z R))) ?_
  refine List.Perm.trans (List.Perm.cons x (List.Perm.swap u y (z :: R))) ?_
  exact List.Perm.swap u x (y :: z :: R))
/-! ### steps through a reading -/
section
variable {K : PySem.W.Frag} {σ : L2.St} {H : Hp} {Q : VK} {ta tb tc te : TE} {D : Ends} {t u : TS} {tt tt2 : TT} {QB : Bool → Hp → Prop}
theorem st_seq (h : t { D with nx := u D } σ H) : tSeq t u D σ H := h
theorem st_asg {g : TG} (h : te σ H fun x H1 => g x σ H1 D.nx) : tAsg te g D σ H := h
theorem st_ret (h : te σ H D.rt) : tRet te D σ H := h
theorem st_if (h : tt σ H fun b H1 => if b = true then t D σ H1 else u D σ H1) : tIfS tt t u D σ H := h
theorem st_drop (h : te σ H fun _ H1 => D.nx σ H1) : tDrop te D σ H := h
theorem st_next (h : D.nx σ H) : tNext D σ H := h
theorem st_brk (h : D.bk σ H) : tBreak D σ H := h
theorem st_cont (h : D.ct σ H) : tCont D σ H := h
theorem sg_name {i : Nat} {v : V} {N : L2.St → Hp → Prop} (h : N (σ.set i (some v)) H) : gName i v σ H N := h
theorem sg_sub {to ti : TE} {s : TSet} {v : V} {N : L2.St → Hp → Prop} (h : to σ H fun o H1 => ti σ H1 fun i H2 => s o i v H2 fun H3 => N σ H3) : gSub to ti s v σ H N := h
theorem sg_tup {n : Nat} {gs : TGs} {a : Addr} {xs : List V} {N : L2.St → Hp → Prop} (hx : SqT K H a xs) (hl : xs.length = n) (h : gs xs σ H N) : gTup K n gs (.ref a) σ H N := ⟨a, xs, rfl, hx, hl, h⟩
theorem sg_nil {N : L2.St → Hp → Prop} (h : N σ H) : gNil [] σ H N := ⟨rfl, h⟩
theorem sg_cons {g : TG} {gs : TGs} {v : V} {r : List V} {N : L2.St → Hp → Prop} (h : g v σ H fun σ' H' => gs r σ' H' N) : gCons g gs (v :: r) σ H N := ⟨v, r, rfl, h⟩
theorem se_var {i : Nat} {v : V} (e : σ[i]? = some (some v)) (h : Q v H) : tVar i σ H Q := ⟨v, e, h⟩
theorem se_c {v : V} (h : Q v H) : tC v σ H Q := h
theorem se_op {r : R2} (h : ta σ H fun x H1 => tb σ H1 fun y H2 => r x y H2 Q) : tOp r ta tb σ H Q := h
theorem se_un {r : V → Hp → VK → Prop} (h : ta σ H fun x H1 => r x H1 Q) : tUn r ta σ H Q := h
theorem se_tup {t : TA} (h : t σ H fun xs H1 => xs.length ≤ sizeLine ∧ AlD (.tup xs) H1 Q) : tTup t σ H Q := h
theorem se_lst {t : TA} (h : t σ H fun xs H1 => xs.length ≤ sizeLine ∧ AlD (.lst xs) H1 Q) : tLst t σ H Q := h
/-- a list that will change -/
def tLstM (t : TA) : TE := tLst t
theorem se_lstM {t : TA} (h : t σ H fun xs H1 => xs.length ≤ sizeLine ∧ AlM (.lst xs) H1 Q) : tLstM t σ H Q := h
theorem sa_nil {N : List V → Hp → Prop} (h : N [] H) : tNil σ H N := h
theorem sa_cons {t : TA} {N : List V → Hp → Prop} (h : te σ H fun x H1 => t σ H1 fun xs H2 => N (x :: xs) H2) : tCons te t σ H N := h
theorem se_call {sp : Sp} {dvs : List V} {E : XK} {t : TA} (h : t σ H fun vs H1 => sp (vs ++ dvs) H1 Q E) : tCall sp dvs E t σ H Q := h
theorem se_cb {r : List V → Hp → VK → Prop} {t : TA} (h : t σ H fun vs H1 => r vs H1 Q) : tCB r t σ H Q := h
theorem se_if (h : tt σ H fun b H1 => if b = true then ta σ H1 Q else tb σ H1 Q) : tIf tt ta tb σ H Q := h
theorem st_test (h : te σ H fun x H1 => ∃ k, x = .bl k ∧ QB k H1) : tTest te σ H QB := h
theorem st_B (h : te σ H fun x H1 => ∃ k, x = .bl k ∧ QB k H1) : tB te σ H QB := h
theorem st_bl {k : Bool} {N : Bool → Prop} (h : N k) : ∃ k', (V.bl k) = .bl k' ∧ N k' := ⟨k, rfl, h⟩
theorem st_and (h : tt σ H fun c H1 => if c = true then tt2 σ H1 QB else QB false H1) : tAnd tt tt2 σ H QB := h
theorem st_or (h : tt σ H fun c H1 => if c = true then QB true H1 else tt2 σ H1 QB) : tOr tt tt2 σ H QB := h
theorem st_not (h : tt σ H fun c H1 => QB (!c) H1) : tNot tt σ H QB := h
theorem ri_mk {C : Int → Int → Prop} {g : Int → Int → V} {i j : Int} (c : C i j) (h : Q (g i j) H) : rI C g (.int i) (.int j) H Q := ⟨i, j, rfl, rfl, c, h⟩
theorem ri0_mk {g : Int → Int → V} {i j : Int} (h : Q (g i j) H) : rI0 g (.int i) (.int j) H Q := ⟨i, j, rfl, rfl, h⟩
end
theorem if_dec {c A B : Prop} [Decidable c] (h1 : c → A) (h2 : ¬ c → B) : if decide c = true then A else B := by
  by_cases h : c
  · rw [if_pos (decide_eq_true h)]
    exact h1 h
  · rw [if_neg (by rw [decide_eq_false h]; decide)]
    exact h2 h
theorem if_decN {c A B : Prop} [Decidable c] (h1 : c → B) (h2 : ¬ c → A) : if (!decide c) = true then A else B := by
  by_cases h : c
  · rw [decide_eq_true h]
    exact iteF (h1 h)
  · rw [decide_eq_false h]
    exact iteT (h2 h)
theorem if_yes {c A B : Prop} [Decidable c] (h : c) (a : A) : if decide c = true then A else B := by
  rw [if_pos (decide_eq_true h)]
  exact a
theorem if_no {c A B : Prop} [Decidable c] (h : ¬ c) (b : B) : if decide c = true then A else B := by
  rw [if_neg (by rw [decide_eq_false h]; decide)]
  exact b
theorem if_yesN {c A B : Prop} [Decidable c] (h : c) (b : B) : if (!decide c) = true then A else B := by
  rw [decide_eq_true h]
  exact iteF b
theorem if_noN {c A B : Prop} [Decidable c] (h : ¬ c) (a : A) : if (!decide c) = true then A else B := by
  rw [decide_eq_false h]
  exact iteT a
theorem small_ok {n : Nat} (h : n ≤ 1000000) : n ≤ sizeLine := Nat.le_trans h (by rw [sizeLine_eq]; decide)
theorem and_on {A B : Prop} (a : A) (b : B) : A ∧ B := ⟨a, b⟩
end Wk

set_option maxRecDepth 100000
set_option maxHeartbeats 4000000
/-! A def's promise where nothing shows itself around (so that repr may be called), and the calls of such defs. -/
namespace Wk
open PySem PySem.Spec PyProof.Rows L2
/-- the function object that stands at f -/
def fdOf (K : PySem.W.Frag) (f : Addr) : FuncData := match K.lookup f with
  | some ⟨_, _, .func fd, _⟩ => fd
  | _ => PySem.W.fnOf "" "" { posonlyargs := [], args := [], vararg := none, kwonlyargs := [], kw_defaults := [], kwarg := none, defaults := [] } [] { kind := .function, names := [], isGenerator := false, isCoroutine := false } .none .none .none .none none .none .none
/-- a def of the text, as it stands behind the top -/
def FD (K : PySem.W.Frag) (x qual : Str) (st : Stmt) (dvs : List V) (f : Addr) : Prop := FunD K x qual (defArgs st) (defBody st) (defScope st) dvs [] f (fdOf K f)
theorem fd_of {K : PySem.W.Frag} {x qual : Str} {st : Stmt} {dvs : List V} {f : Addr} {fd : FuncData} (F : FunD K x qual (defArgs st) (defBody st) (defScope st) dvs [] f fd) : FD K x qual st dvs f := by
  obtain ⟨oc, od, dV, kV, doc, pm, an, cdv, ct, osl, e, lk, r⟩ := F.ex
  have q : fdOf K f = fd := by
    unfold fdOf
    rw [lk]
  unfold FD
  rw [q]
  exact F
/-- the promise: FnOk's, where no container is about to be shown around -/
structure FnG (P : Program) (w : World) (K : PySem.W.Frag) (mg : Str → Option Value) (base : Heap) (k : Nat) (f : Addr) (ps : List Str) (sp : Sp) : Prop where
  len : ∀ vs H Q E, sp vs H Q E → vs.length = ps.length
  run : ∀ (A : Around) (outer : List Env) (s : Shared) (H : Hp) (args : Args) (us : List Value) (vs : List V) (Q : VK) (E : XK), A.guards = some [] → Room k A → Env0 P w K mg base A outer s H →
    BindsTo s (fdOf K f) args (ps.zip us) → Vals vs us → sp vs H Q E → codeAny (model P w) A (.call (.ref f) args) (CR (L2.CX P w) outer P w H s Q E) s
theorem FnG.mono {P : Program} {w : World} {K : PySem.W.Frag} {mg : Str → Option Value} {base : Heap} {j k : Nat} {f : Addr} {ps : List Str} {sp : Sp} (F : FnG P w K mg base j f ps sp) (h : j ≤ k) : FnG P w K mg base k f ps sp :=
  ⟨F.len, fun A outer s H args us vs Q E hg hr => F.run A outer s H args us vs Q E hg (hr.mono h)⟩
section
variable {P : Program} {w : World} {K : PySem.W.Frag} {mg : Str → Option Value} {base : Heap}
theorem FD.ok {x qual : Str} {st : Stmt} {dvs : List V} {f : Addr} {N ps : List Str} {k : Nat} {sp : Sp} (F : FD K x qual st dvs f) (S : FnScope N ps (defScope st)) (len : ∀ vs H Q E, sp vs H Q E → vs.length = ps.length)
    (hbody : ∀ (cdv : Value) (A : Around) (outer : List Env) (s : Shared) (H : Hp) (vs : List V) (Q : VK) (E : XK), A.guards = some [] → Room k (A.deeper (envOfC qual (defScope st) s.heap.objs.size f cdv)) → sp vs H Q E →
      ∃ t, PSs (cxOf (L2.CX P w) P w K mg base N qual (defScope st) f cdv A outer s H E) (defBody st) t ∧ t { nx := fun _ H' => Q .non H', rt := Q } (start N vs) H) : FnG P w K mg base (k + 1) f ps sp := by
  obtain ⟨oc, od, dV, kV, doc, pm, an, cdv, ct, osl, efd, lk, hcd, _, _⟩ := FunD.ex F
  refine ⟨len, fun A outer s H args us vs Q E hgu hr e0 hb r hsp => ?_⟩
  have hl := len _ _ _ _ hsp
  have KX : K.In s.heap := e0.mod.kin.keeps fun b o e => (e0.bs b o e).1
  have lim : s.heap.NoLimit := e0.mod.nolimit.keeps fun b o e => (e0.bs b o e).1
  rw [efd] at lk hb
  have hk : ∀ y ∈ ps.zip us, (defScope st).names.lookup y.1 = some .local ∨ ((defScope st).names.lookup y.1 = some .cell ∧ ((cellsFrom (s.heap.objs.size + 1) (defScope st).names []).lookup y.1).isSome = true) := fun ⟨n, v⟩ hy => by
    rcases S.par n (List.of_mem_zip hy).1 with q | q
    · exact .inl q
    · exact .inr ⟨q, PySem.W.cellsFrom_some _ _ _ (.inl q)⟩
  refine codeAny_call_function hr.depth (KX _ _ lk) rfl S.co S.gen rfl (PySem.W.codeRec_of KX hcd) (hb _ _ _ _ ?_)
  refine wpAny_newFunctionEnv_cells S.kind hk fun env he s1 x => ?_
  subst he
  refine ⟨lim.keeps x.toInCall.keep, codeAny_func ?_⟩
  obtain ⟨t, ht, hq⟩ := hbody cdv A outer s H vs Q E hgu (hr.deeper _) hsp
  have I : Inv (cxOf (L2.CX P w) P w K mg base N qual (defScope st) f cdv A outer s H E) [] (start N vs) H s1 := inv_start S hr.hd e0 hl r x
  refine wpAny_mono (ht.run [] s1 (start N vs) H _ I hq) (fun fl s' hs => ?_) fun e s' hs => hs
  cases fl with
  | ret u =>
    obtain ⟨v, σ', H', J, rv, q⟩ := hs
    exact ⟨v, H', J.os, J.bare, J.base, J.hok, rv, q⟩
  | next =>
    obtain ⟨σ', H', J, q⟩ := hs
    exact ⟨V.non, H', J.os, J.bare, J.base, J.hok, rfl, q⟩
  | brk =>
    obtain ⟨_, _, _, q⟩ := hs
    exact False.elim q
  | cont =>
    obtain ⟨_, _, _, q⟩ := hs
    exact False.elim q
end
/-! ### calls -/
/-- what a callee lets out is taken at the caller's slots -/
def PassG (X : Cx) (σ : L2.St) (E : XK) : Prop := ∀ (pins : List (Addr × Obj)) (H : Hp) (s : Shared) (e : Value) (s' : Shared), Inv X pins σ H s → L2.CX X.prog X.w X.stack H s E e s' → X.xe e s'
theorem pass_none {X : Cx} {σ : L2.St} : PassG X σ E0 := fun _ _ _ _ _ _ h => by
  obtain ⟨_, _, _, _, _, _, _, _, _, _, _, _, z⟩ := h
  exact z.elim
theorem pass_takes {X : Cx} {W : L2.WX} {σ : L2.St} (tk : Takes X W) : PassG X σ (fun cls d H => W cls d σ H) :=
  fun _ _ _ e s' I c => tk e s' (XE.of_call I (fun _ _ _ h => h) c)
section
variable {X : Cx} {k : Nat} {f C : Addr} {ps ks : List Str} {sp : Sp} {dvs : List V} {ds : List Value} {E : L2.St → XK} {x m : Str} {p pos apos : Pos} {e o : Expr} {es : List Expr} {ta : TE} {t tk : TA} {kws : List Keyword}
theorem run_fnG {pins : List (Addr × Obj)} {σ : L2.St} {H : Hp} {s : Shared} {Q : VK} {us : List Value} {kw : List (Str × Value)} {ws : List Value} {zs : List V} (F : FnG X.prog X.w X.K X.mg X.base k f ps sp) (hgu : X.A.guards = some []) (hr : Room k X.A)
    (hx : PassG X σ (E σ)) (I : Inv X pins σ H s) (hb : BindsTo s (fdOf X.K f) ⟨us, kw⟩ (ps.zip ws)) (r : Vals zs ws) (h : sp zs H Q (E σ)) : wpAny (model X.prog X.w) X.A (call (.ref f) us kw) (EP X pins σ Q) X.xe s := by
  refine wpAny_call (codeAny_mono (F.run X.A X.stack s H ⟨us, kw⟩ ws zs Q (E σ) hgu hr I.env0 hb r h) fun r s' hq => ?_)
  cases r with
  | error e => exact hx pins H s e s' I hq
  | ok fl =>
    cases fl with
    | ret u => exact I.after hq
    | next => exact False.elim hq
    | brk => exact False.elim hq
    | cont => exact False.elim hq
def gCall (sp : Sp) (dvs : List V) (E : L2.St → XK) (t : TA) : TE := fun σ H Q => t σ H fun vs H1 => sp (vs ++ dvs) H1 Q (E σ)
theorem bind_of {ds : List Value} {dvs : List V} {s : Shared} {H : Hp} {Q : VK} {E : XK} {us : List Value} {vs : List V} (F : FnG X.prog X.w X.K X.mg X.base k f ps sp) (hb : Binds X.K (fdOf X.K f) ps ds) (hd : Vals dvs ds) (r : Vals vs us) (KX : X.K.In s.heap) (h : sp (vs ++ dvs) H Q E) :
    BindsTo s (fdOf X.K f) ⟨us, []⟩ (ps.zip (us ++ ds)) := by
  refine hb s us KX ?_
  rw [← (r.append hd).length]
  exact F.len _ _ _ _ h
theorem ge_call (F : FnG X.prog X.w X.K X.mg X.base k f ps sp) (hgu : X.A.guards = some []) (hr : Room k X.A) (hg : Gl X x) (hm : X.mg x = some (.ref f)) (hk : PySem.W.keepIn X.K (.ref f) = true) (hb : Binds X.K (fdOf X.K f) ps ds) (hd : Vals dvs ds) (hx : ∀ σ, PassG X σ (E σ))
    (ha : PA X (e :: es) t) (hdb : (x == ("__debug__" : Str)) = false := by decide) (he : starEach (e :: es) X.env = (false, eval e X.env) :: starEach es X.env := by rfl) (hpl : (backTo pos (starEach es X.env)).any (·.1) = false := by rfl) :
    PE X (.Call (.Name x p) (e :: es) [] pos) (gCall sp dvs E t) := by
  refine ⟨fun pins s σ H Q I h => ?_⟩
  refine wpAny_Call_Name_kw (ld_glob I hg hm ?_ hdb)
  refine PySem.W.callWith_K (h₀ := X.base) I.ok.mod.kin hk (thn (ha.run pos pins s σ H _ I h) fun us s1 ⟨vs, H1, I1, r, q⟩ => ⟨I1.kIn, ?_⟩) he hpl
  exact run_fnG F hgu hr (hx σ) I1 (bind_of F hb hd r I1.kIn q) (r.append hd) q
def gMeth (C : Addr) (m : Str) (sp : Sp) (dvs : List V) (E : L2.St → XK) (ta : TE) (t : TA) : TE := fun σ H Q => ta σ H fun x H1 => ∃ a dx fs, x = .ref a ∧ H1 a = some (.ins C dx fs) ∧ fs.lookup m = none ∧
  t σ H1 fun vs H2 => sp (x :: (vs ++ dvs)) H2 Q (E σ)
theorem ge_meth {pl : Sem Bool} (he : PE X o ta) (c : Cls X.K C) (hm : Meth X.K C m f) (F : FnG X.prog X.w X.K X.mg X.base k f ps sp) (hgu : X.A.guards = some []) (hr : Room k X.A) (hb : Binds X.K (fdOf X.K f) ps ds) (hd : Vals dvs ds) (hx : ∀ σ, PassG X σ (E σ)) (ha : PA X (e :: es) t)
    (hst : starEach (e :: es) X.env = (false, eval e X.env) :: starEach es X.env := by rfl) (hpl : (backTo pos (starEach es X.env)).any (·.1) = false := by rfl)
    (ht : eval (.Call (.Attribute o m apos) (e :: es) [] pos) X.env = (do
      let ov ← eval o X.env
      standAt apos.atName
      let (f, first) ← holding [ov] (getMethod ov m pl)
      callWith pos f first (backTo pos (starEach (e :: es) X.env)) (backToKw pos (keywordEach [] X.env))) := by rfl) :
    PE X (.Call (.Attribute o m apos) (e :: es) [] pos) (gMeth C m sp dvs E ta t) := by
  refine ⟨fun pins s σ H Q I h => ?_⟩
  refine PySem.W.methodCall_KW (pl := pl) (thn (he.run pins s σ H _ I h) fun u s1 ⟨x, H1, I1, rx, a, dx, fs, ex, ea, l, q⟩ => ?_) ht
  subst ex
  obtain rfl : u = Value.ref a := rx
  refine getmeth_ok I1 ea c hm l ?_
  refine PySem.W.callWith_K (first := [.ref a]) (h₀ := X.base) I.ok.mod.kin hm.kp (thn (ha.run pos pins s1 σ H1 _ I1 q) fun us s2 ⟨vs, H2, I2, r, q2⟩ => ⟨I2.kIn, ?_⟩) hst hpl
  have r2 : Vals (V.ref a :: vs) (Value.ref a :: us) := .cons rfl r
  exact run_fnG F hgu hr (hx σ) I2 (bind_of F hb hd r2 I2.kIn q2) (r2.append hd) q2
theorem ge_meth0 {pl : Sem Bool} (he : PE X o ta) (c : Cls X.K C) (hm : Meth X.K C m f) (F : FnG X.prog X.w X.K X.mg X.base k f ps sp) (hgu : X.A.guards = some []) (hr : Room k X.A) (hb : Binds X.K (fdOf X.K f) ps ds) (hd : Vals dvs ds) (hx : ∀ σ, PassG X σ (E σ))
    (ht : eval (.Call (.Attribute o m apos) [] [] pos) X.env = (do
      let ov ← eval o X.env
      standAt apos.atName
      let (f, first) ← holding [ov] (getMethod ov m pl)
      callWith pos f first (backTo pos (starEach [] X.env)) (backToKw pos (keywordEach [] X.env))) := by rfl) :
    PE X (.Call (.Attribute o m apos) [] [] pos) (gMeth C m sp dvs E ta tNil) := by
  refine ⟨fun pins s σ H Q I h => ?_⟩
  refine PySem.W.methodCall_KW (pl := pl) (thn (he.run pins s σ H _ I h) fun u s1 ⟨x, H1, I1, rx, a, dx, fs, ex, ea, l, q⟩ => ?_) ht
  subst ex
  obtain rfl : u = Value.ref a := rx
  refine getmeth_ok I1 ea c hm l ?_
  have r2 : Vals [V.ref a] [Value.ref a] := .cons rfl .nil
  have q2 : sp ([V.ref a] ++ dvs) H1 Q (E σ) := q
  exact PySem.W.callWith_K0 (first := [.ref a]) I1.kIn hm.kp (run_fnG F hgu hr (hx σ) I1 (bind_of F hb hd r2 I1.kIn q2) (r2.append hd) q2)
/-! ### a new instance -/
def gMake (C : Addr) (sp : Sp) (dvs : List V) (E : L2.St → XK) (t : TA) : TE := fun σ H Q => t σ H fun vs H1 => ∀ x dx, H1 x = none → H1 dx = none → dx ≠ x →
  sp (.ref x :: (vs ++ dvs)) (upd (upd H1 dx (.own x)) x (.ins C dx [])) (fun v H2 => v = .non ∧ Q (.ref x) H2) (E σ)
theorem make_guards {A : Around} {C : Addr} {us : List Value} {kw : List (Str × Value)} (h : A.guards = some []) : (A.under (.builtin "type.__call__" ⟨.ref C :: us, kw⟩)).guards = some [] := by
  simp [Around.under, Code.guards, Code.isGuard, guardIds, pushGuards, h]
theorem run_makeG {pins : List (Addr × Obj)} {σ : L2.St} {H : Hp} {s : Shared} {Q : VK} {us : List Value} {kw : List (Str × Value)} (M : Mk X.K C f) (F : FnG X.prog X.w X.K X.mg X.base k f ps sp) (hgu : X.A.guards = some []) (hr : Room (k + 1) X.A)
    (hx : PassG X σ (E σ)) (I : Inv X pins σ H s) (zs : V → List V) (ws : Value → List Value) (hb : ∀ (y : Addr) (s' : Shared), X.K.In s'.heap → BindsTo s' (fdOf X.K f) ⟨Value.ref y :: us, kw⟩ (ps.zip (ws (.ref y)))) (r : ∀ y, Vals (zs (.ref y)) (ws (.ref y)))
    (h : ∀ x dx, H x = none → H dx = none → dx ≠ x → sp (zs (.ref x)) (upd (upd H dx (.own x)) x (.ins C dx [])) (fun v H2 => v = .non ∧ Q (.ref x) H2) (E σ)) :
    wpAny (model X.prog X.w) X.A (call (.ref C) us kw) (EP X pins σ Q) X.xe s := by
  have hq := h (s.heap.objs.size + 1) s.heap.objs.size (I.hok.fresh (Nat.le_succ _)) (I.hok.fresh (Nat.le_refl _)) (Nat.ne_of_lt (Nat.lt_succ_self _))
  have I2 := Inv.made (C := C) I
  refine wpAny_call (make_map (f := f) I.kIn M.makes M.init (beq_iff_eq.mp M.fn) (codeAny_mono (F.run _ X.stack _ _ ⟨Value.ref (s.heap.objs.size + 1) :: us, kw⟩ _ _ _ (E σ) (make_guards hgu) (hr.make C us kw)
    (I2.env0.make C us kw) (hb _ _ I2.kIn) (r _) hq) fun r s' hq' => ?_))
  cases r with
  | error e => exact hx pins _ _ e s' I2 hq'
  | ok fl =>
    cases fl with
    | ret u =>
      obtain ⟨v, H', I3, rv, ev, q3⟩ := I2.after hq'
      subst ev
      exact ⟨rv, ⟨V.ref (s.heap.objs.size + 1), H', I3, rfl, q3⟩⟩
    | next => exact False.elim hq'
    | brk => exact False.elim hq'
    | cont => exact False.elim hq'
theorem ge_make (M : Mk X.K C f) (F : FnG X.prog X.w X.K X.mg X.base k f ps sp) (hgu : X.A.guards = some []) (hr : Room (k + 1) X.A) (hg : Gl X x) (hm : X.mg x = some (.ref C)) (hb : Binds X.K (fdOf X.K f) ps ds) (hd : Vals dvs ds) (hx : ∀ σ, PassG X σ (E σ))
    (ha : PA X (e :: es) t) (hdb : (x == ("__debug__" : Str)) = false := by decide) (he : starEach (e :: es) X.env = (false, eval e X.env) :: starEach es X.env := by rfl) (hpl : (backTo pos (starEach es X.env)).any (·.1) = false := by rfl) :
    PE X (.Call (.Name x p) (e :: es) [] pos) (gMake C sp dvs E t) := by
  refine ⟨fun pins s σ H Q I h => ?_⟩
  refine wpAny_Call_Name_kw (ld_glob I hg hm ?_ hdb)
  refine PySem.W.callWith_K (h₀ := X.base) I.ok.mod.kin M.kp (thn (ha.run pos pins s σ H _ I h) fun us s1 ⟨vs, H1, I1, r, q⟩ => ⟨I1.kIn, ?_⟩) he hpl
  have hl : (us ++ ds).length + 1 = ps.length := by
    have e1 := (r.append hd).length
    have hq := q (s1.heap.objs.size + 1) s1.heap.objs.size (I1.hok.fresh (Nat.le_succ _)) (I1.hok.fresh (Nat.le_refl _)) (Nat.ne_of_lt (Nat.lt_succ_self _))
    have e2 := F.len _ _ _ _ hq
    rw [List.length_cons, e1] at e2
    exact e2
  exact run_makeG M F hgu hr (hx σ) I1 (fun y => y :: (vs ++ dvs)) (fun y => y :: (us ++ ds)) (fun y s' KX => hb s' (Value.ref y :: us) KX hl) (fun y => .cons rfl (r.append hd)) q
end
end Wk

set_option maxRecDepth 100000
set_option maxHeartbeats 4000000
/-! Data by trees, repr of them. -/
namespace Wk
open PySem PySem.Spec PyProof.Rows L2
def kD : Key → PyData
  | .inl i => .int i
  | .inr x => .str x
mutual
/-- the value v stands for the tree -/
inductive Rep (H : Hp) : V → PyData → Prop
  | non : Rep H .non .none
  | bl (b : Bool) : Rep H (.bl b) (.bool b)
  | int (i : Int) : Rep H (.int i) (.int i)
  | str (x : Str) : Rep H (.str x) (.str x)
  | lst {a : Addr} {vs : List V} {ds : List PyData} : H a = some (.lst vs) → RepL H vs ds → Rep H (.ref a) (.list ds)
  | tup {a : Addr} {vs : List V} {ds : List PyData} : H a = some (.tup vs) → RepL H vs ds → Rep H (.ref a) (.tuple ds)
  | dict {a : Addr} {kvs : List (Key × V)} {ds : List (PyData × PyData)} : H a = some (.dK kvs) → RepK H kvs ds → Rep H (.ref a) (.dict ds)
inductive RepL (H : Hp) : List V → List PyData → Prop
  | nil : RepL H [] []
  | cons {v : V} {vs : List V} {d : PyData} {ds : List PyData} : Rep H v d → RepL H vs ds → RepL H (v :: vs) (d :: ds)
inductive RepK (H : Hp) : List (Key × V) → List (PyData × PyData) → Prop
  | nil : RepK H [] []
  | cons {k : Key} {v : V} {kvs : List (Key × V)} {d : PyData} {ds : List (PyData × PyData)} : Rep H v d → RepK H kvs ds → RepK H ((k, v) :: kvs) ((kD k, d) :: ds)
end
mutual
theorem Rep.mono {H H' : Hp} (e : Ex H H') : ∀ {v : V} {d : PyData}, Rep H v d → Rep H' v d
  | _, _, .non => .non
  | _, _, .bl b => .bl b
  | _, _, .int i => .int i
  | _, _, .str x => .str x
  | _, _, .lst h l => .lst (e _ _ h) (RepL.mono e l)
  | _, _, .tup h l => .tup (e _ _ h) (RepL.mono e l)
  | _, _, .dict h l => .dict (e _ _ h) (RepK.mono e l)
theorem RepL.mono {H H' : Hp} (e : Ex H H') : ∀ {vs : List V} {ds : List PyData}, RepL H vs ds → RepL H' vs ds
  | _, _, .nil => .nil
  | _, _, .cons h l => .cons (Rep.mono e h) (RepL.mono e l)
theorem RepK.mono {H H' : Hp} (e : Ex H H') : ∀ {vs : List (Key × V)} {ds : List (PyData × PyData)}, RepK H vs ds → RepK H' vs ds
  | _, _, .nil => .nil
  | _, _, .cons h l => .cons (Rep.mono e h) (RepK.mono e l)
end
theorem HI.rep {H D : Hp} {R : List (Addr × HO)} {v : V} {d : PyData} (h : HI H R D) (r : Rep D v d) : Rep H v d := r.mono h.sub
theorem RepL.length {H : Hp} : ∀ {vs : List V} {ds : List PyData}, RepL H vs ds → vs.length = ds.length
  | _, _, .nil => rfl
  | _, _, .cons _ l => congrArg Nat.succ (RepL.length l)
theorem RepL.get {H : Hp} : ∀ {vs : List V} {ds : List PyData} {i : Nat} {v : V}, RepL H vs ds → vs[i]? = some v → ∃ d, ds[i]? = some d ∧ Rep H v d
  | _, _, _, _, .nil, e => by simp at e
  | _, _, 0, _, .cons h _, e => by
    simp at e
    subst e
    exact ⟨_, rfl, h⟩
  | _, _, i + 1, _, .cons _ l, e => by
    obtain ⟨d, h1, h2⟩ := RepL.get (i := i) l (by simpa using e)
    exact ⟨d, by simpa using h1, h2⟩
theorem RepL.getD {H : Hp} : ∀ {vs : List V} {ds : List PyData} {i : Nat} {d : PyData}, RepL H vs ds → ds[i]? = some d → ∃ v, vs[i]? = some v ∧ Rep H v d
  | _, _, _, _, .nil, e => by simp at e
  | _, _, 0, _, .cons h _, e => by
    simp at e
    subst e
    exact ⟨_, rfl, h⟩
  | _, _, i + 1, _, .cons _ l, e => by
    obtain ⟨d, h1, h2⟩ := RepL.getD (i := i) l (by simpa using e)
    exact ⟨d, by simpa using h1, h2⟩
theorem RepL.append {H : Hp} : ∀ {vs ws : List V} {ds es : List PyData}, RepL H vs ds → RepL H ws es → RepL H (vs ++ ws) (ds ++ es)
  | _, _, _, _, .nil, r => r
  | _, _, _, _, .cons h l, r => .cons h (RepL.append l r)
theorem RepL.take {H : Hp} : ∀ {vs : List V} {ds : List PyData} (n : Nat), RepL H vs ds → RepL H (vs.take n) (ds.take n)
  | _, _, 0, _ => .nil
  | _, _, _ + 1, .nil => .nil
  | _, _, n + 1, .cons h l => .cons h (RepL.take n l)
theorem RepL.drop {H : Hp} : ∀ {vs : List V} {ds : List PyData} (n : Nat), RepL H vs ds → RepL H (vs.drop n) (ds.drop n)
  | _, _, 0, r => r
  | _, _, _ + 1, .nil => .nil
  | _, _, n + 1, .cons _ l => RepL.drop n l
theorem RepL.snoc {H : Hp} {vs : List V} {ds : List PyData} {v : V} {d : PyData} (l : RepL H vs ds) (h : Rep H v d) : RepL H (vs ++ [v]) (ds ++ [d]) := l.append (.cons h .nil)
section
variable {X : Cx} {pins : List (Addr × Obj)} {σ : L2.St} {H : Hp} {s : Shared}
/-- the written part holds the table of modules -/
def HasSys (K : PySem.W.Frag) : Prop := ∃ o, K.lookup sysModules = some o
theorem not_sys (I : Inv X pins σ H s) (hs : HasSys X.K) {a : Addr} {o : HO} (h : H a = some o) : a ≠ sysModules := fun e => by
  obtain ⟨ob, ho⟩ := hs
  have z := (I.bs sysModules ob (I.ok.mod.kin _ _ ho)).2
  rw [e, z] at h
  cases h
theorem reads_kd {h : Heap} : ∀ {k : Key} {u : Value}, keyIs k u = true → ∃ as, Reads h u (kD k) as ∧ sysModules ∉ as
  | .inl i, u, e => by
    obtain ⟨t, rfl⟩ := Value.isInt_shape (k := i) (v := u) e
    exact ⟨_, Reads.int i t, by simp⟩
  | .inr x, u, e => by
    obtain ⟨t, rfl⟩ := Value.isStrOf_shape (x := x) (v := u) e
    exact ⟨_, Reads.str x t, by simp⟩
mutual
theorem Rep.reads (I : Inv X pins σ H s) (hs : HasSys X.K) : ∀ {v : V} {d : PyData} {u : Value}, Rep H v d → RelV v u → ∃ as, Reads s.heap u d as ∧ sysModules ∉ as
  | _, _, _, .non, r => by
    cases r
    exact ⟨_, Reads.none, by simp⟩
  | _, _, _, .bl b, r => by
    cases r
    exact ⟨_, Reads.bool b, by simp⟩
  | _, _, _, .int i, r => by
    obtain ⟨t, rfl⟩ := r
    exact ⟨_, Reads.int i t, by simp⟩
  | _, _, _, .str x, r => by
    obtain ⟨t, rfl⟩ := r
    exact ⟨_, Reads.str x t, by simp⟩
  | _, _, _, .lst h l, r => by
    cases r
    obtain ⟨its, rv, ⟨o, n, ho, hc, _, hd⟩, _⟩ := I.list (SqL.of h)
    obtain ⟨as, hr, hn⟩ := RepL.reads I hs l rv
    exact ⟨_, Reads.list ho hc hd hr, by
      rw [List.mem_cons]
      exact not_or.mpr ⟨(not_sys I hs h).symm, hn⟩⟩
  | _, _, _, .tup h l, r => by
    cases r
    obtain ⟨its, rv, ⟨o, ho, hc, n, hd⟩, _⟩ := I.tuple (SqT.of h)
    obtain ⟨as, hr, hn⟩ := RepL.reads I hs l rv
    exact ⟨_, Reads.tuple ho hc hd hr, hn⟩
  | _, _, _, .dict h l, r => by
    cases r
    obtain ⟨_, _, vs, rv, o, es, ep, ho, hx, hd, _, hp, _⟩ := I.hok _ _ h
    obtain ⟨as, bs, h1, h2, n1, n2⟩ := RepK.reads I hs l rv hp
    exact ⟨_, Reads.dict ho hx.1 hd h1 h2, by
      rw [List.cons_append, List.mem_cons, List.mem_append]
      exact not_or.mpr ⟨(not_sys I hs h).symm, not_or.mpr ⟨n1, n2⟩⟩⟩
theorem RepL.reads (I : Inv X pins σ H s) (hs : HasSys X.K) : ∀ {vs : List V} {ds : List PyData} {us : List Value}, RepL H vs ds → Vals vs us → ∃ as, ReadsAll s.heap us ds as ∧ sysModules ∉ as
  | _, _, _, .nil, r => by
    cases r
    exact ⟨_, ReadsAll.nil, by simp⟩
  | _, _, _, .cons h l, r => by
    cases r with
    | cons r1 r2 =>
      obtain ⟨as, q1, n1⟩ := Rep.reads I hs h r1
      obtain ⟨bs, q2, n2⟩ := RepL.reads I hs l r2
      exact ⟨_, ReadsAll.cons q1 q2, by
        rw [List.mem_append]
        exact not_or.mpr ⟨n1, n2⟩⟩
theorem RepK.reads (I : Inv X pins σ H s) (hs : HasSys X.K) : ∀ {kvs : List (Key × V)} {ds : List (PyData × PyData)} {us : List (Key × Value)} {es : List DictEntry}, RepK H kvs ds → KV kvs us → Pairs (mixKind X.prog X.w) es us →
    ∃ as bs, ReadsAll s.heap (es.map (·.key)) (ds.map (·.1)) as ∧ ReadsAll s.heap (es.map (·.val)) (ds.map (·.2)) bs ∧ sysModules ∉ as ∧ sysModules ∉ bs
  | _, _, _, _, .nil, r, p => by
    cases r
    cases p
    exact ⟨_, _, ReadsAll.nil, ReadsAll.nil, by simp, by simp⟩
  | _, _, _, _, .cons h l, r, p => by
    cases r with
    | cons r1 r2 =>
      cases p with
      | cons p1 p2 p3 =>
        obtain ⟨e1, e2⟩ := r1
        obtain ⟨as, bs, q1, q2, n1, n2⟩ := RepK.reads I hs l r2 p3
        rw [← e1] at p1
        obtain ⟨a1, g1, m1⟩ := reads_kd (h := s.heap) (show keyIs _ _ = true from p1)
        rw [← p2] at e2
        obtain ⟨a2, g2, m2⟩ := Rep.reads I hs h e2
        exact ⟨_, _, ReadsAll.cons g1 q1, ReadsAll.cons g2 q2, by
          rw [List.mem_append]
          exact not_or.mpr ⟨m1, n1⟩, by
          rw [List.mem_append]
          exact not_or.mpr ⟨m2, n2⟩⟩
end
end
/-- repr(x) -/
def rRepr : List V → Hp → VK → Prop := fun xs H Q => ∃ x d, xs = [x] ∧ Rep H x d ∧ d.showable = true ∧ d.shown.length ≤ sizeLine ∧ d.depth ≤ 60 ∧ Q (.str d.shown) H
theorem call_repr {X : Cx} {k : Nat} (hgu : X.A.guards = some []) (hr : Room k X.A) (hs : HasSys X.K) : CallR X (.builtin "repr") rRepr := by
  intro pins s σ H xs us Q I r h
  obtain ⟨x, d, rfl, hx, h1, h2, h3, q⟩ := h
  obtain ⟨u, rfl, ru⟩ := vals1 r
  have hu := hr.units
  have fin : ∀ h' t tk, (∀ b o, s.heap.get? b = some o → h'.get? b = some o) → EP X pins σ Q (.str d.shown t) { s with heap := h', toks := tk } := fun h' t tk k => ⟨.str d.shown, H, I.kept k, ⟨_, rfl⟩, q⟩
  cases hx with
  | non => cases ru; exact P.repr_of_none (fin s.heap _ _ fun _ _ e => e)
  | bl b => cases ru; exact P.repr_of_bool (fin s.heap _ _ fun _ _ e => e)
  | int i =>
    obtain ⟨t, rfl⟩ := ru
    exact P.repr_of_int (by simpa [PyData.showable] using h1) (fin s.heap _ _ fun _ _ e => e)
  | str z =>
    obtain ⟨t, rfl⟩ := ru
    exact P.repr_of_str (fin s.heap _ _ fun _ _ e => e) h2
  | lst e l =>
    obtain ⟨as, hrd, hn⟩ := Rep.reads I hs (.lst e l) ru
    cases ru
    exact repr_of_reads' hrd h1 (fun _ => hn) hgu (by omega) (fun _ _ e => e) (fun h' u tk k => fin h' u tk k) h2
  | tup e l =>
    obtain ⟨as, hrd, hn⟩ := Rep.reads I hs (.tup e l) ru
    cases ru
    exact repr_of_reads' hrd h1 (fun _ => hn) hgu (by omega) (fun _ _ e => e) (fun h' u tk k => fin h' u tk k) h2
  | dict e l =>
    obtain ⟨as, hrd, hn⟩ := Rep.reads I hs (.dict e l) ru
    cases ru
    exact repr_of_reads' hrd h1 (fun _ => hn) hgu (by omega) (fun _ _ e => e) (fun h' u tk k => fin h' u tk k) h2
end Wk

set_option maxRecDepth 100000
set_option maxHeartbeats 4000000
/-! One rule a piece of syntax: what the values are decides at the reading. -/
namespace Wk
open PySem PySem.Spec PyProof.Rows L2
/-! ### + -/
inductive RAdd : V → V → Hp → VK → Prop
  | int {i j : Int} {H : Hp} {Q : VK} : Q (.int (i + j)) H → RAdd (.int i) (.int j) H Q
  | str {a b : Str} {H : Hp} {Q : VK} : a.length + b.length ≤ sizeLine → Q (.str (a ++ b)) H → RAdd (.str a) (.str b) H Q
  | lst {p q : Addr} {xs ys : List V} {H : Hp} {Q : VK} : H p = some (.lst xs) → H q = some (.lst ys) → xs.length + ys.length ≤ sizeLine → AlD (.lst (xs ++ ys)) H Q → RAdd (.ref p) (.ref q) H Q
  | tup {p q : Addr} {xs ys : List V} {H : Hp} {Q : VK} : H p = some (.tup xs) → H q = some (.tup ys) → xs ≠ [] → ys ≠ [] → xs.length + ys.length ≤ sizeLine → AlD (.tup (xs ++ ys)) H Q → RAdd (.ref p) (.ref q) H Q
/-- the same, where the new list will change -/
inductive RAddM : V → V → Hp → VK → Prop
  | lst {p q : Addr} {xs ys : List V} {H : Hp} {Q : VK} : H p = some (.lst xs) → H q = some (.lst ys) → xs.length + ys.length ≤ sizeLine → AlM (.lst (xs ++ ys)) H Q → RAddM (.ref p) (.ref q) H Q
section
variable {X : Cx}
theorem op_addU : OpR X (binaryOp .Add) (RAdd) := by
  intro pins s σ H x y v u Q I rx ry h
  cases h with
  | int q => exact op_add pins s σ H _ _ v u Q I rx ry ⟨_, _, rfl, rfl, q⟩
  | str hl q => exact op_add_str pins s σ H _ _ v u Q I rx ry ⟨_, _, rfl, rfl, hl, q⟩
  | lst h1 h2 hl q => exact op_cat pins s σ H _ _ v u Q I rx ry ⟨_, _, _, _, rfl, rfl, h1, h2, hl, q⟩
  | tup h1 h2 n1 n2 hl q => exact op_catT pins s σ H _ _ v u Q I rx ry ⟨_, _, _, _, rfl, rfl, SqT.of h1, SqT.of h2, n1, hl, fun e => absurd e n2, fun _ => q⟩
theorem op_addUM : OpR X (binaryOp .Add) (RAddM) := by
  intro pins s σ H x y v u Q I rx ry h
  cases h with
  | lst h1 h2 hl q => exact op_cat pins s σ H _ _ v u Q I rx ry ⟨_, _, _, _, rfl, rfl, h1, h2, hl, q⟩
end
/-! ### * -/
/-- a text, written n times -/
def strRep (a : Str) (n : Nat) : Str := ⟨(List.replicate n a.cps).foldl (· ++ ·) #[]⟩
inductive RMul : V → V → Hp → VK → Prop
  | str {a : Str} {k : Int} {H : Hp} {Q : VK} : 1 ≤ a.length → a.length ≤ 1000 → 1 ≤ k → k ≤ 1000 → Q (.str (strRep a k.toNat)) H → RMul (.str a) (.int k) H Q
  | int {i j : Int} {H : Hp} {Q : VK} : CMul i j → Q (.int (i * j)) H → RMul (.int i) (.int j) H Q
  | lst {p : Addr} {k : Int} {xs : List V} {H : Hp} {Q : VK} : H p = some (.lst xs) → -(2 ^ 63) ≤ k → k < 2 ^ 63 → xs.length * k.toNat ≤ sizeLine → AlD (.lst (List.replicate k.toNat xs).flatten) H Q → RMul (.ref p) (.int k) H Q
inductive RMulM : V → V → Hp → VK → Prop
  | lst {p : Addr} {k : Int} {xs : List V} {H : Hp} {Q : VK} : H p = some (.lst xs) → -(2 ^ 63) ≤ k → k < 2 ^ 63 → xs.length * k.toNat ≤ sizeLine → AlM (.lst (List.replicate k.toNat xs).flatten) H Q → RMulM (.ref p) (.int k) H Q
section
variable {X : Cx}
theorem op_mulU : OpR X (binaryOp .Mult) (RMul) := by
  intro pins s σ H x y v u Q I rx ry h
  cases h with
  | @str a k _ _ a0 a1 k0 k1 q =>
    obtain ⟨t, rfl⟩ := rx
    obtain ⟨t', rfl⟩ := ry
    have e1 : decide (k < -(2 ^ 63 : Int)) = false := decide_eq_false (by omega)
    have e2 : decide (k ≥ 2 ^ 63) = false := decide_eq_false (by omega)
    have hm : a.length * k.toNat ≤ 1000 * 1000 := Nat.mul_le_mul a1 (by omega)
    refine PySem.P.mul_str (by rw [e1, e2]; rfl) (fun _ _ => ?_) (fun _ _ => ?_) ?_
    · have : (1000 : Int) ≤ (2 ^ 63 - 1) / k := by
        refine Int.le_ediv_of_mul_le (by omega) ?_
        have : 1000 * k ≤ 1000 * 1000 := by omega
        omega
      omega
    · show decide (a.length * k.toNat > sizeLine) = false
      rw [sizeLine_eq]
      exact decide_eq_false (by omega)
    · rw [if_neg (by omega)]
      by_cases h1 : k = 1
      · subst h1
        have e : strRep a (Int.toNat 1) = a := by
          show (⟨#[] ++ a.cps⟩ : Str) = a
          obtain ⟨x⟩ := a
          simp
        rw [e] at q
        exact ⟨.str a, H, I, ⟨t, rfl⟩, q⟩
      · have e3 : (k == 1 || a.length == 0) = false := by
          rw [Bool.or_eq_false_iff]
          exact ⟨beq_eq_false_iff_ne.mpr h1, beq_eq_false_iff_ne.mpr (by omega)⟩
        rw [e3]
        have hl : (strRep a k.toNat).length ≤ sizeLine := by
          have : ∀ (n : Nat) (acc : Array Nat), ((List.replicate n a.cps).foldl (· ++ ·) acc).size = acc.size + a.length * n := by
            intro n
            induction n with
            | zero => intro acc; simp
            | succ n ih =>
              intro acc
              rw [List.replicate_succ, List.foldl_cons, ih, Array.size_append, Nat.mul_succ]
              have : a.cps.size = a.length := rfl
              omega
          show ((List.replicate k.toNat a.cps).foldl (· ++ ·) #[]).size ≤ sizeLine
          rw [this, sizeLine_eq]
          simp
          omega
        exact ⟨hl, .str _, H, I.tok _, ⟨_, rfl⟩, q⟩
  | int hc q => exact op_mul pins s σ H _ _ v u Q I rx ry ⟨_, _, rfl, rfl, hc, q⟩
  | lst h1 h2 h3 hl q => exact op_rep pins s σ H _ _ v u Q I rx ry ⟨_, _, _, rfl, rfl, h1, h2, h3, hl, q⟩
theorem op_mulUM : OpR X (binaryOp .Mult) (RMulM) := by
  intro pins s σ H x y v u Q I rx ry h
  cases h with
  | lst h1 h2 h3 hl q => exact op_rep pins s σ H _ _ v u Q I rx ry ⟨_, _, _, rfl, rfl, h1, h2, h3, hl, q⟩
end
/-! ### ==, != -/
mutual
theorem Rep.dp {K : PySem.W.Frag} {H : Hp} : ∀ {v : V} {d : PyData}, Rep H v d → d.hasDict = false → Dp K H v d
  | _, _, .non, _ => .non
  | _, _, .bl b, _ => .bl b
  | _, _, .int i, _ => .int i
  | _, _, .str x, _ => .str x
  | _, _, .lst h l, n => .lst (SqL.of h) (RepL.dp l (by simpa [PyData.hasDict] using n))
  | _, _, .tup h l, n => .tup (SqT.of h) (RepL.dp l (by simpa [PyData.hasDict] using n))
  | _, _, .dict h l, n => by simp [PyData.hasDict] at n
theorem RepL.dp {K : PySem.W.Frag} {H : Hp} : ∀ {vs : List V} {ds : List PyData}, RepL H vs ds → PyData.hasDictAll ds = false → DpAll K H vs ds
  | _, _, .nil, _ => .nil
  | _, _, .cons h l, n => by
    simp only [PyData.hasDictAll, Bool.or_eq_false_iff] at n
    exact .cons (Rep.dp h n.1) (RepL.dp l n.2)
end
inductive REq (neg : Bool) : V → V → Hp → VK → Prop
  | scal {x y : V} {H : Hp} {Q : VK} : scal x y = true → Q (.bl (if neg then !decide (x = y) else decide (x = y))) H → REq neg x y H Q
  | dat {x y : V} {d e : PyData} {H : Hp} {Q : VK} : Rep H x d → Rep H y e → d.hasDict = false → e.hasDict = false → SeqAt.shaped d = true → SeqAt.shaped e = true → Q (.bl (if neg then !PyData.eqv d e else PyData.eqv d e)) H → REq neg x y H Q
section
variable {X : Cx}
theorem op_eqU (hu : X.A.units + 64 < cLine) : OpR X (compareOp .Eq) (REq false) := by
  intro pins s σ H x y v u Q I rx ry h
  cases h with
  | scal h1 q => exact op_eq pins s σ H _ _ v u Q I rx ry ⟨h1, q⟩
  | dat h1 h2 n1 n2 s1 s2 q => exact op_eqD hu pins s σ H _ _ v u Q I rx ry ⟨_, _, h1.dp n1, h2.dp n2, s1, s2, q⟩
theorem op_neU (hu : X.A.units + 64 < cLine) : OpR X (compareOp .NotEq) (REq true) := by
  intro pins s σ H x y v u Q I rx ry h
  cases h with
  | scal h1 q => exact op_ne pins s σ H _ _ v u Q I rx ry ⟨h1, q⟩
  | dat h1 h2 n1 n2 s1 s2 q => exact op_neD hu pins s σ H _ _ v u Q I rx ry ⟨_, _, h1.dp n1, h2.dp n2, s1, s2, q⟩
end
/-! ### in, not in -/
inductive RIn (neg : Bool) : V → V → Hp → VK → Prop
  | sign {c : Nat} {z : Str} {H : Hp} {Q : VK} : Q (.bl (if neg then !decide (c ∈ z.cps.toList) else decide (c ∈ z.cps.toList))) H → RIn neg (.str ⟨#[c]⟩) (.str z) H Q
  | lst {x : V} {p : Addr} {xs : List V} {H : Hp} {Q : VK} : H p = some (.lst xs) → flatV x = true → xs.all flatV = true → Q (.bl (if neg then !inV x xs else inV x xs)) H → RIn neg x (.ref p) H Q
section
variable {X : Cx}
theorem op_inU : OpR X (compareOp .In) (RIn false) := by
  intro pins s σ H x y v u Q I rx ry h
  cases h with
  | sign q => exact op_in_sign pins s σ H _ _ v u Q I rx ry ⟨_, _, rfl, rfl, q⟩
  | lst h1 h2 h3 q => exact op_in_seq pins s σ H _ _ v u Q I rx ry ⟨_, _, rfl, .inl (SqL.of h1), h2, h3, q⟩
theorem op_niU : OpR X (compareOp .NotIn) (RIn true) := by
  intro pins s σ H x y v u Q I rx ry h
  cases h with
  | sign q => exact op_notIn_sign pins s σ H _ _ v u Q I rx ry ⟨_, _, rfl, rfl, q⟩
  | lst h1 h2 h3 q => exact op_notIn_seq pins s σ H _ _ v u Q I rx ry ⟨_, _, rfl, .inl (SqL.of h1), h2, h3, q⟩
end
/-! ### is, is not: None, True, False on the right -/
theorem is_bl_rel {prog : Program} {w : World} {A : Around} {E : Value → Shared → Prop} {s : Shared} {x : V} {v : Value} {b : Bool} {Q : Value → Shared → Prop} (r : RelV x v) (h : Q (.bool (decide (x = .bl b))) s) : wpAny (model prog w) A (compareOp .Is v (.bool b)) Q E s := by
  cases x with
  | non => cases r; exact wpAny_pure (a := Value.bool false) (by simpa using h)
  | bl c =>
    cases r
    refine is_bool ?_
    rw [show (c == b) = decide (V.bl c = .bl b) from dec_bl.symm]
    exact h
  | int _ => obtain ⟨t, rfl⟩ := r; exact wpAny_pure (a := Value.bool false) (by simpa using h)
  | str _ => obtain ⟨t, rfl⟩ := r; exact wpAny_pure (a := Value.bool false) (by simpa using h)
  | byt _ => obtain ⟨t, rfl⟩ := r; exact wpAny_pure (a := Value.bool false) (by simpa using h)
  | flt _ => obtain ⟨t, rfl⟩ := r; exact wpAny_pure (a := Value.bool false) (by simpa using h)
  | ref _ => cases r; exact wpAny_pure (a := Value.bool false) (by simpa using h)
  | ty _ => cases r; exact wpAny_pure (a := Value.bool false) (by simpa using h)
theorem isn_bl_rel {prog : Program} {w : World} {A : Around} {E : Value → Shared → Prop} {s : Shared} {x : V} {v : Value} {b : Bool} {Q : Value → Shared → Prop} (r : RelV x v) (h : Q (.bool (!decide (x = .bl b))) s) : wpAny (model prog w) A (compareOp .IsNot v (.bool b)) Q E s := by
  cases x with
  | non => cases r; exact wpAny_pure (a := Value.bool true) (by simpa using h)
  | bl c =>
    cases r
    refine isnot_bool ?_
    rw [show (c != b) = !decide (V.bl c = .bl b) from congrArg not dec_bl.symm]
    exact h
  | int _ => obtain ⟨t, rfl⟩ := r; exact wpAny_pure (a := Value.bool true) (by simpa using h)
  | str _ => obtain ⟨t, rfl⟩ := r; exact wpAny_pure (a := Value.bool true) (by simpa using h)
  | byt _ => obtain ⟨t, rfl⟩ := r; exact wpAny_pure (a := Value.bool true) (by simpa using h)
  | flt _ => obtain ⟨t, rfl⟩ := r; exact wpAny_pure (a := Value.bool true) (by simpa using h)
  | ref _ => cases r; exact wpAny_pure (a := Value.bool true) (by simpa using h)
  | ty _ => cases r; exact wpAny_pure (a := Value.bool true) (by simpa using h)
inductive RIs (neg : Bool) : V → V → Hp → VK → Prop
  | non {x : V} {H : Hp} {Q : VK} : Q (.bl (if neg then !decide (x = .non) else decide (x = .non))) H → RIs neg x .non H Q
  | bl {x : V} {b : Bool} {H : Hp} {Q : VK} : Q (.bl (if neg then !decide (x = .bl b) else decide (x = .bl b))) H → RIs neg x (.bl b) H Q
section
variable {X : Cx}
theorem op_isU : OpR X (compareOp .Is) (RIs false) := by
  intro pins s σ H x y v u Q I rx ry h
  cases h with
  | non q => exact op_isN pins s σ H _ _ v u Q I rx ry ⟨rfl, q⟩
  | bl q =>
    cases ry
    exact is_bl_rel rx ⟨.bl _, H, I, rfl, q⟩
theorem op_isnU : OpR X (compareOp .IsNot) (RIs true) := by
  intro pins s σ H x y v u Q I rx ry h
  cases h with
  | non q => exact op_notN pins s σ H _ _ v u Q I rx ry ⟨rfl, q⟩
  | bl q =>
    cases ry
    exact isn_bl_rel rx ⟨.bl _, H, I, rfl, q⟩
end
/-! ### len -/
inductive RLen : List V → Hp → VK → Prop
  | str {z : Str} {H : Hp} {Q : VK} : z.length ≤ sizeLine → Q (.int z.length) H → RLen [.str z] H Q
  | lst {p : Addr} {xs : List V} {H : Hp} {Q : VK} : H p = some (.lst xs) → Q (.int xs.length) H → RLen [.ref p] H Q
  | tup {p : Addr} {xs : List V} {H : Hp} {Q : VK} : H p = some (.tup xs) → Q (.int xs.length) H → RLen [.ref p] H Q
  | dict {p : Addr} {xs : List (Key × V)} {H : Hp} {Q : VK} : H p = some (.dK xs) → Q (.int xs.length) H → RLen [.ref p] H Q
  | frz {p : Addr} {o : Obj} {xs : List V} {H : Hp} {Q : VK} : H p = some (.frz o (.lst xs)) → Q (.int xs.length) H → RLen [.ref p] H Q
theorem call_lenU {X : Cx} : CallR X (.builtin "len") RLen := by
  intro pins s σ H xs us Q I r h
  cases h with
  | str h1 q => exact call_len_str pins s σ H _ us Q I r ⟨_, rfl, h1, q⟩
  | lst h1 q => exact call_len_seq pins s σ H _ us Q I r ⟨_, _, rfl, .inl (SqL.of h1), q⟩
  | tup h1 q => exact call_len_seq pins s σ H _ us Q I r ⟨_, _, rfl, .inr (SqT.of h1), q⟩
  | dict h1 q => exact call_lenD pins s σ H _ us Q I r ⟨_, _, rfl, h1, q⟩
  | frz h1 q => exact call_len_seq pins s σ H _ us Q I r ⟨_, _, rfl, .inl (.inl (.inr ⟨_, h1⟩)), q⟩
/-! ### slices -/
inductive RSl : V → Option Int → Option Int → Hp → VK → Prop
  | str {z : Str} {lo hi : Option Int} {H : Hp} {Q : VK} : z.length ≤ sizeLine → Q (.str (cutS z lo hi)) H → RSl (.str z) lo hi H Q
  | lst {p : Addr} {xs : List V} {lo hi : Option Int} {H : Hp} {Q : VK} : H p = some (.lst xs) → AlD (.lst (cutV xs lo hi)) H Q → RSl (.ref p) lo hi H Q
inductive RSlM : V → Option Int → Option Int → Hp → VK → Prop
  | lst {p : Addr} {xs : List V} {lo hi : Option Int} {H : Hp} {Q : VK} : H p = some (.lst xs) → AlM (.lst (cutV xs lo hi)) H Q → RSlM (.ref p) lo hi H Q
section
variable {X : Cx}
theorem sl_U : SlR X (RSl) := by
  intro pins s σ H x v lo hi vl vu sl Q I rx hs h1 h2 h
  cases h with
  | str hz q => exact sl_str pins s σ H _ v _ _ vl vu sl Q I rx hs h1 h2 ⟨_, rfl, hz, q⟩
  | lst hl q => exact sl_list pins s σ H _ v _ _ vl vu sl Q I rx hs h1 h2 ⟨_, _, rfl, SqL.of hl, q⟩
theorem sl_UM : SlR X (RSlM) := by
  intro pins s σ H x v lo hi vl vu sl Q I rx hs h1 h2 h
  cases h with
  | lst hl q => exact sl_list pins s σ H _ v _ _ vl vu sl Q I rx hs h1 h2 ⟨_, _, rfl, SqL.of hl, q⟩
theorem pe_lstM {es : List Expr} {t : TA} {pos : Pos} (h : PA X es t) : PE X (.List es pos) (tLstM t) := pe_lst h
end
/-! ### numbers -/
theorem cdiv_of {i j : Int} (h0 : 0 < j) (h1 : j < 2 ^ 100) : CDivW i j := wide_div (b := 100) h0 (by omega) (by decide) (by decide)
theorem mod_let {i j : Int} {H : Hp} {Q : VK} (h : 0 < j) (k : ∀ r, 0 ≤ r → r < j → Q (.int r) H) : rI (fun _ j => 0 < j) (fun i j => .int (i % j)) (.int i) (.int j) H Q :=
  ⟨i, j, rfl, rfl, h, k _ (Int.emod_nonneg _ (by omega)) (Int.emod_lt_of_pos _ h)⟩
theorem pow_ok {r c z d : Int} (h1 : 0 ≤ r) (h2 : r < 2147483648) (h3 : 0 ≤ c) (h4 : c ≤ 200000) (h5 : 0 ≤ z) (h6 : z ≤ 1000001) (h7 : 0 ≤ d) (h8 : d ≤ 1000) : (r / 8 + c * z * z + d).natAbs < 2 ^ 64 := by
  have a1 : z * z ≤ 1000001 * 1000001 := Int.mul_le_mul h6 h6 h5 (by omega)
  have a2 : 0 ≤ z * z := Int.mul_nonneg h5 h5
  have a3 : c * (z * z) ≤ 200000 * (1000001 * 1000001) := Int.mul_le_mul h4 a1 a2 (by omega)
  have a4 : 0 ≤ c * (z * z) := Int.mul_nonneg h3 a2
  rw [Int.mul_assoc]
  omega
/-! ### subscripts -/
inductive RIx : V → V → Hp → VK → Prop
  | l {p : Addr} {xs : List V} {i : Int} {v : V} {H : Hp} {Q : VK} : H p = some (.lst xs) → atI xs i = some v → Q v H → RIx (.ref p) (.int i) H Q
  | t {p : Addr} {xs : List V} {i : Int} {v : V} {H : Hp} {Q : VK} : H p = some (.tup xs) → atI xs i = some v → Q v H → RIx (.ref p) (.int i) H Q
  | f {p : Addr} {o : Obj} {xs : List V} {i : Int} {v : V} {H : Hp} {Q : VK} : H p = some (.frz o (.lst xs)) → atI xs i = some v → Q v H → RIx (.ref p) (.int i) H Q
  | s {z : Str} {i : Int} {c : Nat} {H : Hp} {Q : VK} : z.length ≤ sizeLine → atI z.cps.toList i = some c → Q (.str ⟨#[c]⟩) H → RIx (.str z) (.int i) H Q
theorem ix_U {X : Cx} : IxR X RIx := by
  intro a b pins s σ H x y v u Q I rx ry h hs
  cases h with
  | l e1 e2 q => exact ix_seq a b pins s σ H _ _ v u Q I rx ry (.inl ⟨_, _, _, _, rfl, rfl, SqL.of e1, e2, q⟩) hs
  | t e1 e2 q => exact ix_seq a b pins s σ H _ _ v u Q I rx ry (.inr (.inl ⟨_, _, _, _, rfl, rfl, SqT.of e1, e2, q⟩)) hs
  | f e1 e2 q => exact ix_seq a b pins s σ H _ _ v u Q I rx ry (.inl ⟨_, _, _, _, rfl, rfl, .inl (.inr ⟨_, e1⟩), e2, q⟩) hs
  | s e1 e2 q => exact ix_seq a b pins s σ H _ _ v u Q I rx ry (.inr (.inr ⟨_, _, _, rfl, rfl, e1, e2, q⟩)) hs
theorem setL {p : Addr} {xs : List V} {k : Int} {j : Nat} {v : V} {H : Hp} {Q : Hp → Prop} (h : H p = some (.lst xs)) (e : ixN xs.length k = some j) (q : Q (upd H p (.lst (xs.set j v)))) : rSetL (.ref p) (.int k) v H Q := ⟨p, xs, k, j, rfl, rfl, h, e, q⟩
theorem set_c {p : Addr} {xs : List V} {R : List (Addr × HO)} {k : Int} {j : Nat} {v : V} {H D : Hp} {Q : Hp → Prop} (hi : HI H ((p, .lst xs) :: R) D) (e : ixN xs.length k = some j) (q : ∀ H', HI H' ((p, .lst (xs.set j v)) :: R) D → Q H') : rSetL (.ref p) (.int k) v H Q :=
  setL (hi.get (List.mem_cons_self ..)) e (q _ hi.set)
theorem set_c2 {p : Addr} {xs : List V} {y : Addr × HO} {R : List (Addr × HO)} {k : Int} {j : Nat} {v : V} {H D : Hp} {Q : Hp → Prop} (hi : HI H (y :: (p, .lst xs) :: R) D) (e : ixN xs.length k = some j) (q : ∀ H', HI H' (y :: (p, .lst (xs.set j v)) :: R) D → Q H') : rSetL (.ref p) (.int k) v H Q :=
  setL (hi.get (List.mem_cons_of_mem _ (List.mem_cons_self ..))) e (q _ hi.set2)
theorem set_c3 {p : Addr} {xs : List V} {y z : Addr × HO} {R : List (Addr × HO)} {k : Int} {j : Nat} {v : V} {H D : Hp} {Q : Hp → Prop} (hi : HI H (y :: z :: (p, .lst xs) :: R) D) (e : ixN xs.length k = some j) (q : ∀ H', HI H' (y :: z :: (p, .lst (xs.set j v)) :: R) D → Q H') : rSetL (.ref p) (.int k) v H Q :=
  setL (hi.get (List.mem_cons_of_mem _ (List.mem_cons_of_mem _ (List.mem_cons_self ..)))) e (q _ hi.set3)
end Wk

set_option maxRecDepth 100000
set_option maxHeartbeats 4000000
/-! Loops and comprehensions over the heap in two parts. -/
namespace Wk
open PySem PySem.Spec PyProof.Rows L2
abbrev Cells := List (Addr × HO)
/-- what a for asks of its walk -/
def ForK (J : It) (g : TG) (tb : TS) (D : Ends) (σ : L2.St) (H : Hp) : Prop := ∃ W : Nat → Nat → L2.St → Hp → Prop, (∃ m, W 0 m σ H) ∧ ∀ i m σ H, W i m σ H →
  (J.stop i H ∧ D.nx σ H) ∨ (J.go i H ∧ ∃ N : L2.St → Hp → Prop, (∀ σ' H', N σ' H' → ∃ m', m' < m ∧ W (i + 1) m' σ' H') ∧ ∀ x H', J.yld i H x H' → g x σ H' fun σ2 H2 => tb { D with nx := N, ct := N, bk := D.nx } σ2 H2)
/-- what a comprehension asks of its walk -/
def LcK (J : It) (g : TG) (tt : TT) (te : TE) (vs : List Nat) (σ : L2.St) (H1 : Hp) (Q : VK) : Prop := ∀ D, H1 D = none → ∃ W : Nat → Nat → Hp → Prop, (∃ m, W 0 m (upd H1 D (.lst []))) ∧ ∀ i m H, W i m H →
  (J.stop i H ∧ Q (.ref D) H) ∨ (J.go i H ∧ ∃ Nx : Hp → Prop, (∀ H', Nx H' → ∃ m', m' < m ∧ W (i + 1) m' H') ∧ ∀ x H', J.yld i H x H' → g x (wipe σ vs) H' fun σ2 H2 => wipe σ2 vs = wipe σ vs ∧ tt σ2 H2 fun b H3 =>
    if b = true then te σ2 H3 fun y H4 => ∃ acc, H4 D = some (.lst acc) ∧ acc.length < sizeLine ∧ Nx (upd H4 D (.lst (acc ++ [y]))) else Nx H3)
section
variable {K : PySem.W.Frag} {σ : L2.St} {H : Hp} {Q : VK} {D : Ends} {ta : TA} {te tl : TE} {tt : TT} {g : TG} {tb : TS} {wi : TI} {vs : List Nat} {R : It → Hp → Prop}
theorem st_for (h : wi σ H fun J H1 => ForK J g tb D σ H1) : tFor wi g tb D σ H := h
theorem se_lc (h : wi σ H fun J H1 => LcK J g tt te vs σ H1 Q) : tLc wi g tt te vs σ H Q := h
theorem it_rng1 (h : ta σ H fun vs H1 => ∃ j : Int, vs = [.int j] ∧ -(2 ^ 62) ≤ j ∧ j < 2 ^ 62 ∧ R (Itr 0 j.toNat) H1) : iRng1 ta σ H R := h
theorem it_rng2 (h : ta σ H fun vs H1 => ∃ i j : Int, vs = [.int i, .int j] ∧ (-(2 ^ 62) ≤ i ∧ i < 2 ^ 62 ∧ -(2 ^ 62) ≤ j ∧ j < 2 ^ 62) ∧ R (Itr i (j - i).toNat) H1) : iRng2 ta σ H R := h
theorem it_list (h : tl σ H fun x H1 => ∃ a, x = .ref a ∧ (∃ xs, SqL K H1 a xs) ∧ R (Itl K a) H1) : iList K tl σ H R := h
theorem it_str (h : tl σ H fun v H1 => ∃ x, v = .str x ∧ R (Its x) H1) : iStr tl σ H R := h
theorem rng1_mk {n : Int} {P : Int → Prop} (h1 : -(2 ^ 62) ≤ n) (h2 : n < 2 ^ 62) (q : P n) : ∃ j : Int, [V.int n] = [.int j] ∧ -(2 ^ 62) ≤ j ∧ j < 2 ^ 62 ∧ P j := ⟨n, rfl, h1, h2, q⟩
theorem rng2_mk {a b : Int} {P : Int → Int → Prop} (h1 : -(2 ^ 62) ≤ a ∧ a < 2 ^ 62 ∧ -(2 ^ 62) ≤ b ∧ b < 2 ^ 62) (q : P a b) : ∃ i j : Int, [V.int a, V.int b] = [.int i, .int j] ∧ (-(2 ^ 62) ≤ i ∧ i < 2 ^ 62 ∧ -(2 ^ 62) ≤ j ∧ j < 2 ^ 62) ∧ P i j := ⟨a, b, rfl, h1, q⟩
theorem list_mk {a : Addr} {xs : List V} {P : Addr → Prop} (h : H a = some (.lst xs)) (q : P a) : ∃ b, V.ref a = .ref b ∧ (∃ xs, SqL K H b xs) ∧ P b := ⟨a, rfl, ⟨xs, SqL.of h⟩, q⟩
theorem strI_mk {z : Str} {P : Str → Prop} (q : P z) : ∃ x, V.str z = .str x ∧ P x := ⟨z, rfl, q⟩
theorem st_yes {QB : Bool → Hp → Prop} (h : QB true H) : tYes σ H QB := h
end
/-- the next turn -/
def NX (I : Nat → L2.St → Cells → Hp → Prop) (i : Nat) : L2.St → Hp → Prop := fun σ' H' => ∃ R' D', HI H' R' D' ∧ I i σ' R' D'
section
variable {J : It} {n : Nat} {G : Hp → Prop} {Y : Nat → Hp → V → Hp → Prop} {g : TG} {tb : TS} {D : Ends} {σ : L2.St} {H D0 : Hp} {R0 : Cells} {tt : TT} {te : TE} {vs : List Nat} {Q : VK}
theorem for_hi (w : Walk J n G Y) (I : Nat → L2.St → Cells → Hp → Prop) (hi : HI H R0 D0) (h0 : I 0 σ R0 D0) (hG : ∀ i σ R Dd H, i ≤ n → HI H R Dd → I i σ R Dd → G H)
    (hs : ∀ i x σ R Dd H H', i < n → HI H R Dd → I i σ R Dd → Y i H x H' → g x σ H' fun σ2 H2 => tb { D with nx := NX I (i + 1), ct := NX I (i + 1), bk := D.nx } σ2 H2) (hd : ∀ σ R Dd H, HI H R Dd → I n σ R Dd → D.nx σ H) : ForK J g tb D σ H :=
  for_it w (NX I) ⟨R0, D0, hi, h0⟩ (fun i σ H hn ⟨R, Dd, a, b⟩ => hG i σ R Dd H hn a b) (fun i x σ H H' hn ⟨R, Dd, a, b⟩ y => hs i x σ R Dd H H' hn a b y) (fun σ H ⟨R, Dd, a, b⟩ => hd σ R Dd H a b)
/-- over a range -/
theorem for_rng {lo : Int} (I : Nat → L2.St → Cells → Hp → Prop) (hi : HI H R0 D0) (h0 : I 0 σ R0 D0)
    (hs : ∀ (i : Nat) σ R Dd H, i < n → HI H R Dd → I i σ R Dd → g (.int (lo + i)) σ H fun σ2 H2 => tb { D with nx := NX I (i + 1), ct := NX I (i + 1), bk := D.nx } σ2 H2) (hd : ∀ σ R Dd H, HI H R Dd → I n σ R Dd → D.nx σ H) : ForK (Itr lo n) g tb D σ H :=
  for_hi walk_range I hi h0 (fun _ _ _ _ _ _ _ _ => trivial) (fun i x σ R Dd H H' hn a b y => by
    obtain ⟨rfl, rfl⟩ := y
    exact hs i σ R Dd H' hn a b) hd
/-- over a list that is data -/
theorem for_lst {K : PySem.W.Frag} {a : Addr} {xs : List V} (I : Nat → L2.St → Cells → Hp → Prop) (hi : HI H R0 D0) (h0 : I 0 σ R0 D0) (hl : ∀ i σ R Dd, I i σ R Dd → Dd a = some (.lst xs))
    (hs : ∀ (i : Nat) x σ R Dd H, xs[i]? = some x → HI H R Dd → I i σ R Dd → g x σ H fun σ2 H2 => tb { D with nx := NX I (i + 1), ct := NX I (i + 1), bk := D.nx } σ2 H2) (hd : ∀ σ R Dd H, HI H R Dd → I xs.length σ R Dd → D.nx σ H) : ForK (Itl K a) g tb D σ H :=
  for_hi walk_list I hi h0 (fun i σ R Dd H _ q p => SqL.of (q.dat (hl i σ R Dd p))) (fun i x σ R Dd H H' hn a b y => by
    obtain ⟨rfl, y⟩ := y
    exact hs i x σ R Dd H' y a b) hd
/-- over a text -/
theorem for_str {z : Str} (I : Nat → L2.St → Cells → Hp → Prop) (hi : HI H R0 D0) (h0 : I 0 σ R0 D0)
    (hs : ∀ (i : Nat) c σ R Dd H, z.cps[i]? = some c → HI H R Dd → I i σ R Dd → g (.str ⟨#[c]⟩) σ H fun σ2 H2 => tb { D with nx := NX I (i + 1), ct := NX I (i + 1), bk := D.nx } σ2 H2) (hd : ∀ σ R Dd H, HI H R Dd → I z.cps.size σ R Dd → D.nx σ H) : ForK (Its z) g tb D σ H :=
  for_hi walk_str I hi h0 (fun _ _ _ _ _ _ _ _ => trivial) (fun i x σ R Dd H H' hn a b y => by
    obtain ⟨rfl, c, y, rfl⟩ := y
    exact hs i c σ R Dd H' y a b) hd
/-- a comprehension's word: its list is the first cell -/
def PW' (L : Addr) (I : Nat → List V → Cells → Hp → Prop) (i : Nat) (H : Hp) : Prop := ∃ acc R Dd, HI H ((L, .lst acc) :: R) Dd ∧ I i acc R Dd ∧ acc.length ≤ i
/-- a turn's end: one more -/
def LE (L : Addr) (I : Nat → List V → Cells → Hp → Prop) (i : Nat) : VK := fun y H => ∃ acc, H L = some (.lst acc) ∧ acc.length < sizeLine ∧ PW' L I i (upd H L (.lst (acc ++ [y])))
theorem le_mk {L : Addr} {I : Nat → List V → Cells → Hp → Prop} {i : Nat} {acc : List V} {R : Cells} {Dd H : Hp} {y : V} (h : HI H ((L, .lst acc) :: R) Dd) (q : I (i + 1) (acc ++ [y]) R Dd) (hl : acc.length ≤ i) (hn : i < 1000000) : LE L I (i + 1) y H :=
  ⟨acc, h.get (List.mem_cons_self ..), by rw [sizeLine_eq]; omega, acc ++ [y], R, Dd, h.set, q, by rw [List.length_append]; simpa using hl⟩
theorem lx_mk {L : Addr} {I : Nat → List V → Cells → Hp → Prop} {i : Nat} {acc : List V} {R : Cells} {Dd H : Hp} (h : HI H ((L, .lst acc) :: R) Dd) (q : I (i + 1) acc R Dd) (hl : acc.length ≤ i) : PW' L I (i + 1) H := ⟨acc, R, Dd, h, q, by omega⟩
theorem lc_hi (w : Walk J n G Y) (I : Nat → List V → Cells → Hp → Prop) (hi : HI H R0 D0) (h0 : I 0 [] R0 D0) (hG : ∀ i acc R Dd H, i ≤ n → HI H R Dd → I i acc R Dd → G H)
    (hs : ∀ L i acc x R Dd H H', i < n → HI H ((L, .lst acc) :: R) Dd → I i acc R Dd → acc.length ≤ i → Y i H x H' → g x (wipe σ vs) H' fun σ2 H2 => wipe σ2 vs = wipe σ vs ∧ tt σ2 H2 fun b H3 => if b = true then te σ2 H3 (LE L I (i + 1)) else PW' L I (i + 1) H3)
    (hd : ∀ L acc R Dd H, HI H ((L, .lst acc) :: R) Dd → I n acc R Dd → acc.length ≤ n → Q (.ref L) H) : LcK J g tt te vs σ H Q := fun L hL =>
  lc_it w (PW' L I) ⟨[], R0, D0, hi.new hL, h0, Nat.le_refl _⟩ (fun i H' hn ⟨acc, R, Dd, a, b, _⟩ => hG i acc R Dd H' hn a.drop b)
    (fun i x H1 H1' hn1 ⟨acc, R, Dd, a, b, c⟩ y => hs L i acc x R Dd H1 H1' hn1 a b c y) (fun H' ⟨acc, R, Dd, a, b, c⟩ => hd L acc R Dd H' a b c)
theorem lc_rng {lo : Int} (I : Nat → List V → Cells → Hp → Prop) (hi : HI H R0 D0) (h0 : I 0 [] R0 D0)
    (hs : ∀ L i acc R Dd H, i < n → HI H ((L, .lst acc) :: R) Dd → I i acc R Dd → acc.length ≤ i → g (.int (lo + (i : Nat))) (wipe σ vs) H fun σ2 H2 => wipe σ2 vs = wipe σ vs ∧ tt σ2 H2 fun b H3 => if b = true then te σ2 H3 (LE L I (i + 1)) else PW' L I (i + 1) H3)
    (hd : ∀ L acc R Dd H, HI H ((L, .lst acc) :: R) Dd → I n acc R Dd → acc.length ≤ n → Q (.ref L) H) : LcK (Itr lo n) g tt te vs σ H Q :=
  lc_hi walk_range I hi h0 (fun _ _ _ _ _ _ _ _ => trivial) (fun L i acc x R Dd H H' hn a b c y => by
    obtain ⟨rfl, rfl⟩ := y
    exact hs L i acc R Dd H' hn a b c) hd
theorem lc_lst {K : PySem.W.Frag} {a : Addr} {xs : List V} (I : Nat → List V → Cells → Hp → Prop) (hi : HI H R0 D0) (h0 : I 0 [] R0 D0) (hl : ∀ i acc R Dd, I i acc R Dd → Dd a = some (.lst xs))
    (hs : ∀ L i acc x R Dd H, xs[i]? = some x → HI H ((L, .lst acc) :: R) Dd → I i acc R Dd → acc.length ≤ i → g x (wipe σ vs) H fun σ2 H2 => wipe σ2 vs = wipe σ vs ∧ tt σ2 H2 fun b H3 => if b = true then te σ2 H3 (LE L I (i + 1)) else PW' L I (i + 1) H3)
    (hd : ∀ L acc R Dd H, HI H ((L, .lst acc) :: R) Dd → I xs.length acc R Dd → acc.length ≤ xs.length → Q (.ref L) H) : LcK (Itl K a) g tt te vs σ H Q :=
  lc_hi walk_list I hi h0 (fun i acc R Dd H _ q p => SqL.of (q.dat (hl i acc R Dd p))) (fun L i acc x R Dd H H' hn a b c y => by
    obtain ⟨rfl, y⟩ := y
    exact hs L i acc x R Dd H' y a b c) hd
theorem lc_str {z : Str} (I : Nat → List V → Cells → Hp → Prop) (hi : HI H R0 D0) (h0 : I 0 [] R0 D0)
    (hs : ∀ L i acc c R Dd H, z.cps[i]? = some c → HI H ((L, .lst acc) :: R) Dd → I i acc R Dd → acc.length ≤ i → g (.str ⟨#[c]⟩) (wipe σ vs) H fun σ2 H2 => wipe σ2 vs = wipe σ vs ∧ tt σ2 H2 fun b H3 => if b = true then te σ2 H3 (LE L I (i + 1)) else PW' L I (i + 1) H3)
    (hd : ∀ L acc R Dd H, HI H ((L, .lst acc) :: R) Dd → I z.cps.size acc R Dd → acc.length ≤ z.cps.size → Q (.ref L) H) : LcK (Its z) g tt te vs σ H Q :=
  lc_hi walk_str I hi h0 (fun _ _ _ _ _ _ _ _ => trivial) (fun L i acc x R Dd H H' hn a b c y => by
    obtain ⟨rfl, d, y, rfl⟩ := y
    exact hs L i acc d R Dd H' y a b c) hd
end
end Wk

set_option maxRecDepth 100000
set_option maxHeartbeats 4000000
/-! Own exceptions with a field found: made, held as values, asked by isinstance, raised. -/
namespace Wk
open PySem PySem.Spec PyProof.Rows L2
/-- the base class at B -/
structure ExB (K : PySem.W.Frag) (mg : Str → Option Value) (n : Str) (B : Addr) : Prop where
  g : mg n = some (.ref B)
  rd : PySem.W.readsIn K B (.type "type") = true
  sp : PySem.W.specialIn K (.ref B) "__getattribute__" = some (some (.builtin "type.__getattribute__"))
  vV : PySem.W.findCls K (.ref B) (.type "type") "__init__" = some (.val (.builtin "ValueError.__init__"))
/-- an own exception class at C, its __init__ at fI -/
structure ExK (K : PySem.W.Frag) (mg : Str → Option Value) (n : Str) (C fI : Addr) : Prop where
  g : mg n = some (.ref C)
  T : OexC K C
  E : ExcC K C
  iC : PySem.W.findIn K (.ref C) "__init__" = some (some (.ref fI))
  tI : PySem.W.typeIn K (.ref fI) = some (.type "function")
  no : PySem.W.findIn K (.ref C) "found" = some none
/-! ### the facts, by looking -/
def isVal (o : Option PySem.W.CFound) (n : String) : Bool := match o with
  | some (.val (.builtin x)) => x == n
  | _ => false
theorem isVal_ok {o : Option PySem.W.CFound} {n : String} (h : isVal o n = true) : o = some (.val (.builtin n)) := by
  unfold isVal at h
  split at h
  · rw [beq_iff_eq.mp h]
  · cases h
def exbB (n : Str) (K : PySem.W.Frag) : Bool := PySem.W.readsIn K (He.ga K n) (.type "type") && (He.eqO (PySem.W.specialIn K (.ref (He.ga K n)) "__getattribute__") (some (some (.builtin "type.__getattribute__"))) && isVal (PySem.W.findCls K (.ref (He.ga K n)) (.type "type") "__init__") "ValueError.__init__")
def oexB (K : PySem.W.Frag) (C : Addr) : Bool := match K.lookup C with
  | some ⟨.type "type", _, .cls cd, sl⟩ => (match cd.mro, sl.toList with
    | .ref C' :: bm, [_, _, _, _, some (.builtin n), _] => C' == C && (n == "ValueError.__new__" && (!cd.hasDel && (cd.hasDict && PySem.HandSPX.refsVE bm)))
    | _, _ => false)
  | _ => false
def eqB (a b : Option Bool) : Bool := decide (a = b)
def eqV (a b : Option Value) : Bool := decide (a = b)
def exkB (n : Str) (K : PySem.W.Frag) : Bool :=
  let C := He.ga K n
  oexB K C && (He.eqO (PySem.W.findIn K (.ref C) "__setattr__") (some (some (.builtin "object.__setattr__"))) && (eqB (PySem.W.subIn K (.ref C) (.type "BaseException")) (some true) && (eqV (PySem.W.typeIn K (.ref C)) (some (.type "type")) && (PySem.W.keepIn K (.ref C) &&
  (He.eqO (PySem.W.findIn K (.ref C) "__getattribute__") (some (some (.builtin "BaseException.__getattribute__"))) && (He.eqO (PySem.W.findIn K (.ref C) "__getattr__") (some none) && (PySem.W.hasDictIn K C &&
  (He.eqO (PySem.W.findIn K (.ref C) "__class__") (some (some (.builtin "object.__class__"))) && (He.eqO (PySem.W.specialIn K (.builtin "object.__class__") "__get__") (some (some (.builtin "getset_descriptor.__get__"))) && (eqB (PySem.W.takesIn K (.builtin "object.__class__")) (some true) && (eqB (PySem.W.mroIn K C (.type "object")) (some true) &&
  (He.eqO (PySem.W.findIn K (.ref C) "__init__") (some (some (.ref (He.ma K C "__init__")))) && (eqV (PySem.W.typeIn K (.ref (He.ma K C "__init__"))) (some (.type "function")) && He.eqO (PySem.W.findIn K (.ref C) "found") (some none))))))))))))))
section
variable {K : PySem.W.Frag} {h : Heap} {mg : Str → Option Value}
theorem oexB_ok {C : Addr} (q : oexB K C = true) : ∃ nm q N bs bm sn sub ab col dd k0 k1 k2 k3 k5, K.lookup C = some (excClassObj nm q C N bs bm true sn sub ab col dd k0 k1 k2 k3 k5 "ValueError.__new__") ∧ PySem.HandSPX.refsVE bm = true := by
  unfold oexB at q
  split at q
  · rename_i dd cd sl ho
    split at q
    · rename_i C' bm k0 k1 k2 k3 n k5 hm hs
      simp only [Bool.and_eq_true, beq_iff_eq, Bool.not_eq_true'] at q
      obtain ⟨rfl, rfl, hdel, hd, ht⟩ := q
      obtain ⟨nm, bs, mro, ns, qn, hdc, sn, sub, ab, col, del⟩ := cd
      dsimp only at hm hdel hd
      subst hm hdel hd
      have hsl : sl = #[k0, k1, k2, k3, some (.builtin "ValueError.__new__"), k5] := by
        obtain ⟨l⟩ := sl
        simp only at hs
        rw [hs]
      subst hsl
      exact ⟨nm, qn, ns, bs, bm, sn, sub, ab, col, dd, k0, k1, k2, k3, k5, ho, ht⟩
    · cases q
  · cases q
theorem exb_ok (X : K.In h) (G : h.Ns mainGlobals mg) {n : Str} (c1 : (He.Fa.glo n).ok K = true) (c : exbB n K = true) : ExB K mg n (He.ga K n) := by
  obtain ⟨a, c⟩ := He.ba c
  obtain ⟨b, d⟩ := He.ba c
  exact ⟨He.glo_ok X G c1, a, He.eqO_ok b, isVal_ok d⟩
theorem exk_ok (X : K.In h) (G : h.Ns mainGlobals mg) {n : Str} (c1 : (He.Fa.glo n).ok K = true) (c : exkB n K = true) : ExK K mg n (He.ga K n) (He.ma K (He.ga K n) "__init__") := by
  obtain ⟨a1, c⟩ := He.ba c
  obtain ⟨a2, c⟩ := He.ba c
  obtain ⟨a3, c⟩ := He.ba c
  obtain ⟨a4, c⟩ := He.ba c
  obtain ⟨a5, c⟩ := He.ba c
  obtain ⟨a6, c⟩ := He.ba c
  obtain ⟨a7, c⟩ := He.ba c
  obtain ⟨a8, c⟩ := He.ba c
  obtain ⟨a9, c⟩ := He.ba c
  obtain ⟨a10, c⟩ := He.ba c
  obtain ⟨a11, c⟩ := He.ba c
  obtain ⟨a12, c⟩ := He.ba c
  obtain ⟨a13, c⟩ := He.ba c
  obtain ⟨a14, a15⟩ := He.ba c
  exact ⟨He.glo_ok X G c1, ⟨oexB_ok a1, He.eqO_ok a2, of_decide_eq_true a3, of_decide_eq_true a4, a5⟩, ⟨He.eqO_ok a6, He.eqO_ok a7, of_decide_eq_true a3, a8, He.eqO_ok a9, He.eqO_ok a10, of_decide_eq_true a11, of_decide_eq_true a12⟩, He.eqO_ok a13, of_decide_eq_true a14, He.eqO_ok a15⟩
end
/-! ### __init__ -/
section
variable {X : Cx} {o e : Expr} {es : List Expr} {to te : TE} {ta : TA} {f : Str} {p p' p1 p2 pos : Pos} {C fI B : Addr} {n x : Str}
/-- B.__init__(self, ..), B an own class without an __init__ of its own -/
theorem pe_binit {pl : Sem Bool} (T : ExB X.K X.mg n B) (hg : Gl X n) (ha : PA X (e :: es) ta) (hdb : (n == ("__debug__" : Str)) = false := by decide)
    (hc : eval (.Call (.Attribute (.Name n p1) "__init__" p2) (e :: es) [] pos) X.env = (do
      let ov ← eval (.Name n p1) X.env
      standAt p2.atName
      let (f, first) ← holding [ov] (getMethod ov "__init__" pl)
      callWith pos f first (backTo pos (starEach (e :: es) X.env)) (backToKw pos (keywordEach [] X.env))) := by rfl)
    (he : starEach (e :: es) X.env = (false, eval e X.env) :: starEach es X.env := by rfl) (hpl : (backTo pos (starEach es X.env)).any (·.1) = false := by rfl) :
    PE X (.Call (.Attribute (.Name n p1) "__init__" p2) (e :: es) [] pos) (tVeI X.K ta) := by
  refine ⟨fun pins s σ H Q I h => ?_⟩
  refine PySem.W.methodCall_KW (ld_glob I hg T.g ?_ hdb) hc
  refine PySem.W.method_cls I.kIn T.sp ?_
  refine PySem.W.cls_value I.kIn T.rd T.vV (by decide +kernel) ?_
  show wpAny _ _ (callWith pos (Value.builtin "ValueError.__init__") [] (backTo pos (starEach (e :: es) X.env)) []) _ _ _
  refine PyProof.Rows.callWith_method1 (thn (ha.run pos pins _ σ H _ (I.tok _) h) fun us s1 ⟨vs, H1, I1, r1, a, C, ws, ev, hl, T, ea, q⟩ => ?_) he hpl
  subst ev
  cases r1 with
  | @cons _ u0 _ ur ra rw' =>
    obtain rfl : u0 = Value.ref a := ra
    have hlen : ur.length ≤ sizeLine := by
      rw [← Paired.length rw', sizeLine_eq]
      omega
    exact oinit_ok T I1 ea hlen fun s' J => ⟨.non, H1, J, rfl, q⟩
end
/-- __init__(self, found) -/
def spInit (K : PySem.W.Frag) (C : Addr) : Sp := fun vs H Q _ => ∃ (a : Addr) (v : V), vs = [.ref a, v] ∧ OexC K C ∧ PySem.W.findIn K (.ref C) "found" = some none ∧ H a = some (exo a C none) ∧
  ∀ d, H d = none → d ≠ a → Q .non (upd (upd H d (exd d [(("found" : Str), v)])) a (exo a C (some d)))
theorem spInit_len {K : PySem.W.Frag} {C : Addr} {vs : List V} {H : Hp} {Q : VK} {E : XK} (h : spInit K C vs H Q E) : vs.length = (["self", "found"] : List Str).length := by
  obtain ⟨a, v, rfl, _⟩ := h
  rfl
theorem init_plain {K : PySem.W.Frag} {C : Addr} {z : Str} {vs : List V} {H : Hp} {Q : VK} {E : XK} (h : spInit K C vs H Q E) :
    tSeq (tDrop (tVeI K (tCons (tVar 0) (tCons (tC (.str z)) tNil)))) (tOst K "found" (tVar 0) (tVar 1)) { nx := fun _ H' => Q .non H', rt := Q } (start ["self", "found"] vs) H := by
  obtain ⟨a, v, rfl, T, no, ea, k⟩ := h
  exact ⟨_, rfl, a, C, [.str z], rfl, (show 1 ≤ 1000 by decide), T, ea, ⟨_, rfl, _, rfl, a, C, rfl, T, no, .inl ⟨ea, k⟩⟩⟩
/-! ### an exception as a value -/
/-- C(e) -/
def tMkE (C : Addr) (ta : TA) : TE := fun σ H Q => ta σ H fun vs H1 => ∃ v, vs = [v] ∧ ∀ a d, H1 a = none → H1 d = none → d ≠ a → Q (.ref a) (upd (upd H1 d (exd d [(("found" : Str), v)])) a (exo a C (some d)))
theorem upd_swap {H : Hp} {a b : Addr} {o u : HO} (h : a ≠ b) : upd (upd H a o) b u = upd (upd H b u) a o := by
  funext c
  by_cases h1 : c = a
  · subst h1
    rw [upd_ne h, upd_same, upd_same]
  · by_cases h2 : c = b
    · subst h2
      rw [upd_same, upd_ne h1, upd_same]
    · rw [upd_ne h2, upd_ne h1, upd_ne h1, upd_ne h2]
theorem upd_end {H : Hp} {a d : Addr} {o o' u : HO} (h : d ≠ a) : upd (upd (upd H a o) d u) a o' = upd (upd H d u) a o' := by
  rw [upd_swap h.symm, upd_upd]
/-- what init leaves, seen from the maker -/
theorem init_use {K : PySem.W.Frag} {mg : Str → Option Value} {n : Str} {C fI a : Addr} {v : V} {H : Hp} {Q : VK} {E : XK} (T : ExK K mg n C fI) (h : ∀ d, H d = none → d ≠ a → Q .non (upd (upd H d (exd d [(("found" : Str), v)])) a (exo a C (some d)))) :
    spInit K C [.ref a, v] (upd H a (exo a C none)) Q E :=
  ⟨a, v, rfl, T.T, T.no, upd_same, fun d hd ne => by
    rw [upd_end ne]
    rw [upd_ne ne] at hd
    exact h d hd ne⟩
section
variable {X : Cx} {e : Expr} {te : TE} {ta : TA} {p pos : Pos} {C fI : Addr} {n : Str} {k : Nat}
/-- the call itself -/
theorem run_exc {pins : List (Addr × Obj)} {σ : L2.St} {H1 : Hp} {s1 : Shared} {v : V} {u : Value} {Q : Value → Shared → Prop} (T : ExK X.K X.mg n C fI) (F1 : FnOk X.prog X.w X.K X.mg X.base CX0 k fI (fdOf X.K fI) ["self", "found"] (spInit X.K C)) (hb : Binds X.K (fdOf X.K fI) ["self", "found"] []) (hr : Room (k + 1) X.A)
    (I1 : Inv X pins σ H1 s1) (rv : RelV v u) (q : ∀ (a d : Addr) (hp2 h2 : Heap) (g2 : Array GenState) (d2 : Drawn) (t2 : Nat) (os2 : OsState), H1 a = none → H1 d = none → d ≠ a → s1.heap.objs.size ≤ a → (∀ b o, s1.heap.get? b = some o → hp2.get? b = some o) →
      Un (frs X.stack) [] (upd H1 a (exo a C none)) (upd (upd H1 d (exd d [(("found" : Str), v)])) a (exo a C (some d))) hp2 h2 → HOk X.prog X.w (upd (upd H1 d (exd d [(("found" : Str), v)])) a (exo a C (some d))) h2 → os2 = s1.os → AllBare g2 →
      Inv X pins σ (upd (upd H1 d (exd d [(("found" : Str), v)])) a (exo a C (some d))) ⟨h2, g2, d2, t2, os2⟩ → Q (.ref a) ⟨h2, g2, d2, t2, os2⟩) :
    wpAny (model X.prog X.w) X.A (call (.ref C) [u]) Q X.xe s1 := by
  obtain ⟨nm, qq, N, bs, bm, sn, sub, ab, col, dd, k0, k1, k2, k3, k5, hC, hbm⟩ := T.T.cls
  obtain ⟨hp, g, dr, tk, os⟩ := s1
  have hsz : hp.objs.size ≤ hp.objs.size + 1 := Nat.le_succ _
  have hn : H1 (hp.objs.size + 1) = none := I1.hok.fresh hsz
  have kk : ∀ b o, hp.get? b = some o → ((hp.push (PySem.W.kdv_tup [u])).push (PySem.HandSPX.excO C hp.objs.size)).get? b = some o := fun b o e => Heap.get?_push_of_some _ (Heap.get?_push_of_some _ e)
  have hget : ((hp.push (PySem.W.kdv_tup [u])).push (PySem.HandSPX.excO C hp.objs.size)).get? (hp.objs.size + 1) = some (PySem.HandSPX.excO C hp.objs.size) := by heap_get
  have I2 : Inv X pins σ (upd H1 (hp.objs.size + 1) (exo (hp.objs.size + 1) C none)) ⟨(hp.push (PySem.W.kdv_tup [u])).push (PySem.HandSPX.excO C hp.objs.size), g, dr, tk, os⟩ :=
    I1.laid (t' := tk) (a := hp.objs.size + 1) (o := exo (hp.objs.size + 1) C none) (h' := (hp.push (PySem.W.kdv_tup [u])).push (PySem.HandSPX.excO C hp.objs.size)) kk hsz (exo_ok hget)
  have r2 : Vals [V.ref (hp.objs.size + 1), v] [Value.ref (hp.objs.size + 1), u] := .cons rfl (.cons rv .nil)
  have hus : [u].length ≤ sizeLine := by
    rw [sizeLine_eq]
    exact (by decide : 1 ≤ 16777216)
  have sp1 : spInit X.K C [.ref (hp.objs.size + 1), v] (upd H1 (hp.objs.size + 1) (exo (hp.objs.size + 1) C none)) (fun w H2 => w = .non ∧ ∃ d, H1 d = none ∧ d ≠ hp.objs.size + 1 ∧ H2 = upd (upd H1 d (exd d [(("found" : Str), v)])) (hp.objs.size + 1) (exo (hp.objs.size + 1) C (some d))) (fun _ _ _ => False) :=
    init_use T fun d hd ne => ⟨rfl, d, hd, ne, rfl⟩
  refine wpAny_call (PySem.HandSPX.call_own F.excBase_ValueError (fun Y => PySem.HandSPX.refsVE_contains Y bm hbm) (I1.kIn _ _ hC) (PySem.W.looks_findIn I1.kIn T.iC) (fun self => PySem.W.bind_fn I1.kIn self T.tI) hus
    (codeAny_mono (F1.run _ X.stack _ _ ⟨[Value.ref (hp.objs.size + 1), u], []⟩ [Value.ref (hp.objs.size + 1), u] _ _ (fun _ _ _ => False) (hr.make C [u] []) (I2.env0.make C [u] []) (hb _ [Value.ref (hp.objs.size + 1), u] I2.kIn rfl) r2 sp1) fun r s' hq' => ?_))
  cases r with
  | error er => exact hq'.elim
  | ok fl =>
    cases fl with
    | ret z =>
      have hq0 := hq'
      obtain ⟨w, H2, os2, bare2, un2, hok2, rw', ew, d, hd1, ne, e2⟩ := hq'
      subst ew e2
      obtain ⟨w', H3, J, rw2, ew2, d', hd', ne', e3⟩ := I2.after hq0
      subst ew2
      obtain ⟨h2, g2, d2, t2, os'⟩ := s'
      refine ⟨rw', q _ d _ h2 g2 d2 t2 os' hn hd1 ne hsz kk un2 hok2 os2 bare2 ?_⟩
      exact I2.call' (ch := []) os2 un2 hok2 bare2 (fun b z => absurd z (by simp))
    | next => exact False.elim hq'
    | brk => exact False.elim hq'
    | cont => exact False.elim hq'
theorem pe_mkX (T : ExK X.K X.mg n C fI) (F1 : FnOk X.prog X.w X.K X.mg X.base CX0 k fI (fdOf X.K fI) ["self", "found"] (spInit X.K C)) (hb : Binds X.K (fdOf X.K fI) ["self", "found"] []) (hr : Room (k + 1) X.A) (hg : Gl X n) (ha : PA X [e] ta)
    (hdb : (n == ("__debug__" : Str)) = false := by decide) (he : starEach [e] X.env = (false, eval e X.env) :: starEach [] X.env := by rfl) (hpl : (backTo pos (starEach [] X.env)).any (·.1) = false := by rfl) :
    PE X (.Call (.Name n p) [e] [] pos) (tMkE C ta) := by
  refine ⟨fun pins s σ H Q I h => ?_⟩
  refine wpAny_Call_Name_kw (ld_glob I hg T.g ?_ hdb)
  refine PySem.W.callWith_K (h₀ := X.base) I.ok.mod.kin T.T.kC (thn (ha.run pos pins s σ H _ I h) fun us s1 ⟨vs, H1, I1, r1, v, ev, q1⟩ => ⟨I1.kIn, ?_⟩) he hpl
  subst ev
  cases r1 with
  | @cons _ u _ us rv rn =>
    cases rn
    show wpAny _ _ (call (.ref C) [u]) _ _ _
    exact run_exc T F1 hb hr I1 rv fun a d hp2 h2 g2 d2 t2 os2 ha hd ne _ _ _ _ _ _ J => ⟨.ref a, _, J, rfl, q1 a d ha hd ne⟩
/-- C(e), to be raised -/
def tMkX (C : Addr) (ta : TA) : L2.St → Hp → XK → Prop := fun σ H Q => ta σ H fun vs H1 => ∃ v, vs = [v] ∧ ∀ d, H1 d = none → Q (.ref C) (some d) (upd H1 d (.xd [(("found" : Str), v)]))
theorem pmk_X (T : ExK X.K X.mg n C fI) (F1 : FnOk X.prog X.w X.K X.mg X.base CX0 k fI (fdOf X.K fI) ["self", "found"] (spInit X.K C)) (hb : Binds X.K (fdOf X.K fI) ["self", "found"] []) (hr : Room (k + 1) X.A) (hg : Gl X n) (ha : PA X [e] ta)
    (hdb : (n == ("__debug__" : Str)) = false := by decide) (he : starEach [e] X.env = (false, eval e X.env) :: starEach [] X.env := by rfl) (hpl : (backTo pos (starEach [] X.env)).any (·.1) = false := by rfl) :
    PMk X (.Call (.Name n p) [e] [] pos) (tMkX C ta) := by
  intro pins s σ H Q I h
  refine wpAny_Call_Name_kw (ld_glob I hg T.g ?_ hdb)
  refine PySem.W.callWith_K (h₀ := X.base) I.ok.mod.kin T.T.kC (thn (ha.run pos pins s σ H _ I h) fun us s1 ⟨vs, H1, I1, r1, v, ev, q1⟩ => ⟨I1.kIn, ?_⟩) he hpl
  subst ev
  cases r1 with
  | @cons _ u _ us rv rn =>
    cases rn
    show wpAny _ _ (call (.ref C) [u]) _ _ _
    refine run_exc T F1 hb hr I1 rv fun a d hp2 h2 g2 d2 t2 os2 ha hd ne hsz kk un hok eo hb2 J => ?_
    obtain ⟨hp, g, dr, tk, os⟩ := s1
    refine mk_end (fs := [(("found" : Str), v)]) (hp2 := hp2) (os1 := os) (raises_own T.T.exC T.T.tyC) I1 hsz kk un hok eo hb2 upd_same (by rw [upd_ne ne, upd_same]) hd ?_
    have e1 : upd (del (upd (upd H1 d (exd d [(("found" : Str), v)])) a (exo a C (some d))) a) d (.xd [(("found" : Str), v)]) = upd H1 d (.xd [(("found" : Str), v)]) := by
      funext b
      by_cases h1 : b = d
      · rw [h1, upd_same, upd_same]
      · rw [upd_ne h1, upd_ne h1]
        by_cases h2 : b = a
        · rw [h2, del_same, ha]
        · rw [del_ne h2, upd_ne h2, upd_ne h1]
    rw [e1]
    exact q1 d hd
def tRaiseX (C : Addr) (W : L2.WX) (ta : TA) : TS := fun _ σ H => tMkX C ta σ H fun cls d H' => W cls d σ H'
theorem ps_raiseX {W : L2.WX} {pos2 : Pos} (hc : X.calm = true) (tk : Takes X W) (T : ExK X.K X.mg n C fI) (F1 : FnOk X.prog X.w X.K X.mg X.base CX0 k fI (fdOf X.K fI) ["self", "found"] (spInit X.K C)) (hb : Binds X.K (fdOf X.K fI) ["self", "found"] []) (hr : Room (k + 1) X.A) (hg : Gl X n) (ha : PA X [e] ta)
    (hdb : (n == ("__debug__" : Str)) = false := by decide) (he : starEach [e] X.env = (false, eval e X.env) :: starEach [] X.env := by rfl) (hpl : (backTo pos (starEach [] X.env)).any (·.1) = false := by rfl) :
    PS X (.Raise (some (.Call (.Name n p) [e] [] pos)) none pos2) (tRaiseX C W ta) := ps_raise hc tk (pmk_X T F1 hb hr hg ha hdb he hpl)
end
/-- the same over the heap in two parts -/
theorem mkE_use {H D : Hp} {R : List (Addr × HO)} {v : V} {C : Addr} {Q : VK} (h : HI H R D) (k : ∀ a d H' D', HI H' R D' → Ex D D' → D' a = some (exo a C (some d)) → D' d = some (exd d [(("found" : Str), v)]) → Q (.ref a) H') :
    ∃ w, [v] = [w] ∧ ∀ a d, H a = none → H d = none → d ≠ a → Q (.ref a) (upd (upd H d (exd d [(("found" : Str), w)])) a (exo a C (some d))) :=
  ⟨v, rfl, fun a d ha hd ne => by
    have h1 := h.newD (o := exd d [(("found" : Str), v)]) hd
    have ha1 : upd H d (exd d [(("found" : Str), v)]) a = none := by rw [upd_ne ne.symm]; exact ha
    have h2 := h1.newD (o := exo a C (some d)) ha1
    exact k a d _ _ h2 ((Ex.new (h.free hd)).trans (Ex.new (h1.free ha1))) upd_same (by rw [upd_ne ne, upd_same])⟩
theorem mkX_use {H D : Hp} {R : List (Addr × HO)} {v : V} {C : Addr} {E : XK} (h : HI H R D) (k : ∀ d H' D', HI H' R D' → Ex D D' → D' d = some (.xd [(("found" : Str), v)]) → E (.ref C) (some d) H') :
    ∃ w, [v] = [w] ∧ ∀ d, H d = none → E (.ref C) (some d) (upd H d (.xd [(("found" : Str), w)])) :=
  ⟨v, rfl, fun d hd => k d _ _ (h.newD hd) (Ex.new (h.free hd)) upd_same⟩
end Wk

set_option maxRecDepth 100000
set_option maxHeartbeats 4000000
/-! Calls with keywords and with defaults; isinstance, one rule. -/
namespace Wk
open PySem PySem.Spec PyProof.Rows L2
/-- values picked by places -/
def gI {α : Type} (idx : List Nat) (l : List α) : List α := idx.filterMap fun i => l[i]?
theorem vals_gI {vs : List V} {us : List Value} (r : Vals vs us) : ∀ idx : List Nat, Vals (Wk.gI idx vs) (Wk.gI idx us)
  | [] => .nil
  | i :: idx => by
    unfold Wk.gI
    rw [List.filterMap_cons, List.filterMap_cons]
    have ih := vals_gI r idx
    unfold Wk.gI at ih
    have one : ∀ {vs : List V} {us : List Value} (i : Nat), Vals vs us → (vs[i]? = none ∧ us[i]? = none) ∨ ∃ v u, vs[i]? = some v ∧ us[i]? = some u ∧ RelV v u := by
      intro vs us i r
      induction r generalizing i with
      | nil => exact .inl ⟨rfl, rfl⟩
      | cons a b ih =>
        cases i with
        | zero => exact .inr ⟨_, _, rfl, rfl, a⟩
        | succ j => exact ih j
    rcases one i r with ⟨e1, e2⟩ | ⟨v, u, e1, e2, rr⟩
    · rw [e1, e2]
      exact ih
    · rw [e1, e2]
      exact .cons rr ih
/-- n positional values and keywords ks bind; gV puts all values in the parameters' order -/
def KB (K : PySem.W.Frag) (fd : FuncData) (ps : List Str) (n : Nat) (ks : List Str) (gV : List V → List V → List V) : Prop := ∃ g, KBn K fd ps n ks g gV
section
variable {K : PySem.W.Frag} {x qual : Str} {st : Stmt} {dvs : List V} {f : Addr} {ps ks : List Str} {n : Nat}
/-- no defaults -/
theorem kb_n (F : FD K x qual st [] f) (g : {α : Type} → List α → List α → List α) (hrel : ∀ {vs zs : List V} {us ws : List Value}, Vals vs us → Vals zs ws → Vals (g vs zs) (g us ws))
    (h : ∀ (kV doc pm : Value) (an : Option Addr) (cdv ct : Value) (us ws : List Value), us.length = n → ws.length = ks.length → bindArgs (PySem.W.fnOf x qual (defArgs st) (defBody st) (defScope st) .none kV doc pm an cdv ct) ⟨us, ks.zip ws⟩ = pure (ps.zip (g us ws))) :
    KB K (fdOf K f) ps n ks g := by
  obtain ⟨oc, od, dV, kV, doc, pm, an, cdv, ct, osl, e, lk, hcd, hD, hK⟩ := FunD.ex F
  refine ⟨g, ⟨fun s us ws X l1 l2 => ?_, fun r1 r2 => hrel r1 r2⟩⟩
  rw [e]
  rcases hD with ⟨_, rfl⟩ | ⟨e, _⟩
  · exact .of_eq (h kV doc pm an cdv ct us ws l1 l2)
  · exact absurd rfl e
/-- defaults -/
theorem kb_d (F : FD K x qual st dvs f) (hd : dvs ≠ []) (g : {α : Type} → List α → List α → List α → List α) (hrel : ∀ {vs ds zs : List V} {us its ws : List Value}, Vals vs us → Vals ds its → Vals zs ws → Vals (g vs ds zs) (g us its ws))
    (h : ∀ (T : Addr) (kV doc pm : Value) (an : Option Addr) (cdv ct : Value) (us its ws : List Value), us.length = n → its.length = dvs.length → ws.length = ks.length →
      ∃ k, bindArgs (PySem.W.fnOf x qual (defArgs st) (defBody st) (defScope st) (.ref T) kV doc pm an cdv ct) ⟨us, ks.zip ws⟩ = seqItems? (.ref T) >>= k ∧ k (some its.toArray) = pure (ps.zip (g us its ws))) :
    KB K (fdOf K f) ps n ks (fun vs zs => g vs dvs zs) := by
  obtain ⟨oc, od, dV, kV, doc, pm, an, cdv, ct, osl, e, lk, hcd, hD, hK⟩ := FunD.ex F
  rcases hD with ⟨e, _⟩ | ⟨_, T, o, its, m, rfl, lT, oT, rT⟩
  · exact absurd e hd
  · refine ⟨fun us ws => g us its ws, ⟨fun s us ws X l1 l2 => ?_, fun r1 r2 => hrel r1 rT r2⟩⟩
    obtain ⟨k, e1, e2⟩ := h T kV doc pm an cdv ct us its ws l1 rT.length.symm l2
    refine BindsTo.of_looks fun M => ?_
    rw [e, e1]
    exact looks_items X lT oT (.of_pure e2)
end
def gCallN (n m : Nat) (sp : Sp) (gV : List V → List V → List V) (E : L2.St → XK) (t tk : TA) : TE := fun σ H Q => t σ H fun vs H1 => tk σ H1 fun zs H2 => vs.length = n ∧ zs.length = m ∧ sp (gV vs zs) H2 Q (E σ)
section
variable {X : Cx} {k n : Nat} {f C : Addr} {ps ks : List Str} {sp : Sp} {E : L2.St → XK} {x m : Str} {p pos apos : Pos} {e o : Expr} {es : List Expr} {kws : List Keyword} {t tk ta : TA} {to : TE} {gV : List V → List V → List V}
theorem run_gN {pins : List (Addr × Obj)} {σ : L2.St} {H : Hp} {s : Shared} {Q : VK} {us ws : List Value} {vs zs : List V} (F : FnG X.prog X.w X.K X.mg X.base k f ps sp) (hgu : X.A.guards = some []) (hr : Room k X.A) (hb : KB X.K (fdOf X.K f) ps n ks gV) (hx : PassG X σ (E σ))
    (I : Inv X pins σ H s) (r : Vals vs us) (rz : Vals zs ws) (l1 : vs.length = n) (l2 : zs.length = ks.length) (h : sp (gV vs zs) H Q (E σ)) : wpAny (model X.prog X.w) X.A (call (.ref f) us (ks.zip ws)) (EP X pins σ Q) X.xe s := by
  obtain ⟨g, hb⟩ := hb
  have r2 := hb.rel r rz
  refine wpAny_call (codeAny_mono (F.run X.A X.stack s H ⟨us, ks.zip ws⟩ (g us ws) (gV vs zs) Q (E σ) hgu hr I.env0 (hb.to s us ws I.kIn (r.length.symm.trans l1) (rz.length.symm.trans l2)) r2 h) fun r s' hq => ?_)
  cases r with
  | error e => exact hx pins H s e s' I hq
  | ok fl =>
    cases fl with
    | ret u => exact I.after hq
    | next => exact False.elim hq
    | brk => exact False.elim hq
    | cont => exact False.elim hq
/-- f(e, .., k = v, ..) -/
theorem ge_callN (F : FnG X.prog X.w X.K X.mg X.base k f ps sp) (hgu : X.A.guards = some []) (hr : Room k X.A) (hg : Gl X x) (hm : X.mg x = some (.ref f)) (hk : PySem.W.keepIn X.K (.ref f) = true) (hb : KB X.K (fdOf X.K f) ps n ks gV) (hx : ∀ σ, PassG X σ (E σ))
    (ha : PA X (e :: es) t) (hkw : PK X kws tk) (hdb : (x == ("__debug__" : Str)) = false := by decide) (hall : (backToKw pos (keywordEach kws X.env)).all (·.1.isSome) = true := by rfl) (hks : (backToKw pos (keywordEach kws X.env)).filterMap (·.1) = ks := by rfl)
    (he : starEach (e :: es) X.env = (false, eval e X.env) :: starEach es X.env := by rfl)
    (hpl : ((backTo pos (starEach (e :: es) X.env)).any (·.1) || (backToKw pos (keywordEach kws X.env)).any (·.1.isNone)) = false := by rfl) :
    PE X (.Call (.Name x p) (e :: es) kws pos) (gCallN n ks.length sp gV E t tk) := by
  refine ⟨fun pins s σ H Q I h => ?_⟩
  refine wpAny_Call_Name_kw (ld_glob I hg hm ?_ hdb)
  refine PySem.W.callWith_KW (h₀ := X.base) I.ok.mod.kin hk hall (thn (ha.run pos pins s σ H _ I h) fun us s1 ⟨vs, H1, I1, r, q⟩ => ?_) hpl he
  refine thn (hkw.run pos pins s1 σ H1 _ I1 q) fun ws s2 ⟨zs, H2, I2, rz, l1, l2, q2⟩ => ⟨I2.kIn, ?_⟩
  rw [hks]
  exact run_gN F hgu hr hb (hx σ) I2 r rz l1 l2 q2
/-- f(k = v, ..) -/
theorem ge_callK (F : FnG X.prog X.w X.K X.mg X.base k f ps sp) (hgu : X.A.guards = some []) (hr : Room k X.A) (hg : Gl X x) (hm : X.mg x = some (.ref f)) (hk : PySem.W.keepIn X.K (.ref f) = true) (hb : KB X.K (fdOf X.K f) ps 0 ks gV) (hx : ∀ σ, PassG X σ (E σ))
    (hkw : PK X kws tk) (hdb : (x == ("__debug__" : Str)) = false := by decide) (hall : (backToKw pos (keywordEach kws X.env)).all (·.1.isSome) = true := by rfl) (hks : (backToKw pos (keywordEach kws X.env)).filterMap (·.1) = ks := by rfl)
    (hpl : ((backTo pos (starEach [] X.env)).any (·.1) || (backToKw pos (keywordEach kws X.env)).any (·.1.isNone)) = false := by rfl) :
    PE X (.Call (.Name x p) [] kws pos) (gCallN 0 ks.length sp gV E tNil tk) := by
  refine ⟨fun pins s σ H Q I h => ?_⟩
  refine wpAny_Call_Name_kw (ld_glob I hg hm ?_ hdb)
  refine PySem.W.callWith_KW0 (h₀ := X.base) I.ok.mod.kin hk hall ?_ hpl
  refine thn (hkw.run pos pins s σ H _ I h) fun ws s2 ⟨zs, H2, I2, rz, l1, l2, q2⟩ => ⟨I2.kIn, ?_⟩
  rw [hks]
  exact run_gN (us := []) (vs := []) F hgu hr hb (hx σ) I2 .nil rz rfl l2 q2
theorem se_callN {σ : L2.St} {H : Hp} {Q : VK} {n m : Nat} (h : t σ H fun vs H1 => tk σ H1 fun zs H2 => vs.length = n ∧ zs.length = m ∧ sp (gV vs zs) H2 Q (E σ)) : gCallN n m sp gV E t tk σ H Q := h
theorem se_call1 {σ : L2.St} {H : Hp} {Q : VK} {dvs : List V} (h : t σ H fun vs H1 => sp (vs ++ dvs) H1 Q (E σ)) : gCall sp dvs E t σ H Q := h
end
/-! ### isinstance -/
inductive Knd where
  | non | bl | int | str | lst | tup | dict | oth
deriving DecidableEq
def Knd.is : Knd → String → Bool
  | .non, n => n == "NoneType"
  | .bl, n => n == "bool" || n == "int"
  | .int, n => n == "int"
  | .str, n => n == "str"
  | .lst, n => n == "list"
  | .tup, n => n == "tuple"
  | .dict, n => n == "dict"
  | .oth, _ => false
def six : List String := ["int", "bool", "str", "list", "tuple", "dict"]
/-- the class's instances are none of the six -/
def Six (K : PySem.W.Frag) (C : Addr) : Prop := ∀ n ∈ six, PySem.W.kitOne K (.ref C) (.type n) = some false
def sixB (x : Str) (K : PySem.W.Frag) : Bool := six.all fun n => eqB (PySem.W.kitOne K (.ref (He.ga K x)) (.type n)) (some false)
theorem six_ok {K : PySem.W.Frag} {x : Str} (h : sixB x K = true) : Six K (He.ga K x) := fun n hn => of_decide_eq_true (List.all_eq_true.mp h n hn)
/-- what the class of an own plain class says, so that isinstance may ask its instances -/
structure InsC (K : PySem.W.Frag) (C : Addr) : Prop where
  cl : Cls K C
  ha : PySem.W.findIn K (.ref C) "__class__" = some (some (.builtin "object.__class__"))
  hn : PySem.W.specialIn K (.builtin "object.__class__") "__get__" = some (some (.builtin "getset_descriptor.__get__"))
  ht : PySem.W.takesIn K (.builtin "object.__class__") = some true
  hm : PySem.W.mroIn K C (.type "object") = some true
/-- a value's kind -/
inductive Kn (K : PySem.W.Frag) (H : Hp) : V → Knd → Prop where
  | non : Kn K H .non .non
  | bl (b : Bool) : Kn K H (.bl b) .bl
  | int (i : Int) : Kn K H (.int i) .int
  | str (x : Str) : Kn K H (.str x) .str
  | lst {a : Addr} {xs : List V} (e : H a = some (.lst xs)) : Kn K H (.ref a) .lst
  | frz {a : Addr} {o : Obj} {xs : List V} (e : H a = some (.frz o (.lst xs))) : Kn K H (.ref a) .lst
  | tup {a : Addr} {xs : List V} (e : H a = some (.tup xs)) : Kn K H (.ref a) .tup
  | dict {a : Addr} {kvs : List (Key × V)} (e : H a = some (.dK kvs)) : Kn K H (.ref a) .dict
  | exc {a d C : Addr} {fs : List (Str × V)} (e : H a = some (exo a C (some d))) (ed : H d = some (exd d fs)) (c : ExcC K C) (s : Six K C) : Kn K H (.ref a) .oth
  | ins {a C dx : Addr} {fs : List (Str × V)} (e : H a = some (.ins C dx fs)) (c : InsC K C) (s : Six K C) : Kn K H (.ref a) .oth
theorem Kn.mono {K : PySem.W.Frag} {H H' : Hp} {v : V} {k : Knd} (h : Kn K H v k) (x : Ex H H') : Kn K H' v k := by
  cases h with
  | non => exact .non
  | bl b => exact .bl b
  | int i => exact .int i
  | str z => exact .str z
  | lst e => exact .lst (x _ _ e)
  | frz e => exact .frz (x _ _ e)
  | tup e => exact .tup (x _ _ e)
  | dict e => exact .dict (x _ _ e)
  | exc e ed c s => exact .exc (x _ _ e) (x _ _ ed) c s
  | ins e c s => exact .ins (x _ _ e) c s
theorem HI.kn {K : PySem.W.Frag} {H D : Hp} {R : List (Addr × HO)} {v : V} {k : Knd} (h : HI H R D) (r : Kn K D v k) : Kn K H v k := r.mono h.sub
abbrev Six0 (a : String) (k : Knd) : Prop := ∀ n ∈ six, kitB a n = some (k.is n)
section
variable {prog : Program} {w : World} {A : Around} {E : Value → Shared → Prop} {s : Shared} {K : PySem.W.Frag} {x D : Addr} {ox od : Obj}
open PySem.W PySem.Calls in
theorem kin_classX {Q : Option Value → Shared → Prop} (C : ExcC K D)
    (X : K.In s.heap) (I : InstAt s.heap x ox D (some od)) (h : Q (some (.ref D)) { s with toks := s.toks + 1 }) : wpAny (model prog w) A (getAttr? (.ref x) "__class__") Q E s := by
  have hga := C.hg
  have hgt := C.hk
  have hsub := C.hs
  have hdct := C.hd
  have ha := C.ha
  have hn := C.hn
  have htk := C.ht
  have hm := C.hm
  have hf : findObj K D (some od) "__class__" = some (.bind (.builtin "getset_descriptor.__get__") (.builtin "object.__class__")) := findObj_data (by obtain ⟨cd, hc, _⟩ := any_some hdct; rw [hc]; rfl) ha hn htk
  obtain ⟨hp, g, d, t, os⟩ := s
  have L0 := I.type (M := model prog w)
  have L1 := looks_findIn (M := model prog w) X hga
  have L2 := looks_findIn (M := model prog w) X hgt
  have L3 := looks_find (M := model prog w) X I hf
  have sub : Looks (model prog w) hp (isInstance (.ref x) (.type "BaseException")) true := L0.andThen (looks_subIn X hsub)
  have hx0 : (false && onTheHeap (Value.builtin "BaseException.__getattribute__")) = false := rfl
  have hx2 : (Value.builtin "BaseException.__getattribute__" == Value.builtin "object.__getattribute__") = false := by decide +kernel
  have hx1 : (onTheHeap (Value.ref D) && Value.builtin "BaseException.__getattribute__" == Value.builtin "object.__getattribute__") = false := by rw [hx2]; rfl
  unfold getAttr? getAttrBy? getAttrBy
  refine wpAny_bind (wpAny_mkText (wpAny_bind (wpAny_attempt (wpAny_holding (wpAny_bind (L0.at (wpAny_bind (L1.at ?_))))))))
  show wpAny _ _ (if (onTheHeap (Value.ref D) && Value.builtin "BaseException.__getattribute__" == Value.builtin "object.__getattribute__") = true then _ else _) _ _ _
  rw [hx1, if_neg Bool.false_ne_true]
  unfold getAttrByItsOwn hookBefore
  refine wpAny_bind ?_
  rw [if_pos (show onTheHeap (Value.ref D) = true from rfl)]
  refine L2.at ?_
  refine wpAny_bind (wpAny_attempt (wpAny_holding ?_))
  unfold callGetattribute
  rw [hx0, if_neg Bool.false_ne_true]
  unfold boundAndCalled
  rw [PySem.F.excAttr_ValueError.ga.bind (.ref x)]
  refine wpAny_bind (wpAny_pure ?_)
  show wpAny _ _ (call (.builtin "BaseException.__getattribute__") [.ref x, .str "__class__" t]) _ _ _
  refine wpAny_call (codeAny_call_builtin PySem.F.excAttr_ValueError.ga.plain PySem.F.entry_bexc_ga ?_)
  refine @check_slot (model prog w) _ _ ⟨hp, g, d, t + 1, os⟩ "BaseException.__getattribute__" "BaseException" "__getattribute__" (.ref x) [.str "__class__" t] [] _ (by decide +kernel) (by decide +kernel) sub (PySem.F.args_bexc_ga (.ref x) (.str "__class__" t)) ?_
  unfold Builtin.«object.__getattribute__»
  refine wpAny_bind (wpAny_of_eq (a := ((Value.ref x : Value), [Value.str "__class__" t])) (by first | rfl | (simp only [slotArgs]; rfl)) ?_)
  refine wpAny_bind (wpAny_pure (wpAny_bind (L0.at (wpAny_bind (L3.at ?_)))))
  show wpAny _ _ (holding [Value.builtin "object.__class__"] (call (.builtin "getset_descriptor.__get__") [.builtin "object.__class__", .ref x, .ref D]) >>= ret) _ _ _
  refine wpAny_bind (wpAny_holding (wpAny_call (class_get (s := ⟨hp, g, d, t + 1, os⟩) (ox := ox) (od := some od) X I hm ?_)))
  refine wpAny_pure ?_
  show wpAny _ _ (handedOut (.ref D)) _ _ _
  rw [handedOut_of (v := .ref D) rfl]
  first
    | exact wpAny_pure (wpAny_pure h)
    | exact wpAny_pure h
    | exact wpAny_pure (wpAny_bind (wpAny_pure (wpAny_pure h)))
open PySem.W PySem.Calls in
theorem kitx_X (C : ExcC K D) : KitX K (.ref x) (.ref D) (fun h => InstAt h x ox D (some od)) where
  ty := fun _ _ _ I => I.type
  it := fun _ _ X _ => by
    obtain ⟨cdD, hcD, _⟩ := any_some C.hd
    unfold clsIn at hcD
    split at hcD
    · rename_i c' d' cd' sl' ho
      intro A' Q' E' s' k q
      unfold isType loadHead
      exact wpAny_bind (wpAny_loadPart (k _ _ (X _ _ ho)) (wpAny_pure q))
    · cases hcD
  ne := fun h tp dd its n sl X htp => by
    obtain ⟨cdD, hcD, _⟩ := any_some C.hd
    refine Bool.eq_false_iff.mpr fun q => ?_
    have e : D = tp := Value.ref.inj (beq_iff_eq.mp q)
    subst e
    unfold clsIn at hcD
    split at hcD
    · rename_i c' d' cd' sl' ho
      have z := (X _ _ ho).symm.trans htp
      cases z
    · cases hcD
  ca := fun X I k => kin_classX C X I k
end
section
variable {X : Cx} {pins : List (Addr × Obj)} {σ : L2.St} {H : Hp} {s : Shared}
/-- the type of such a value, and what the library's rules ask -/
theorem kn_of {v : V} {u : Value} {k : Knd} (I : Inv X pins σ H s) (rx : RelV v u) (h : Kn X.K H v k) :
    ∃ (t : Value) (P : Heap → Prop), PySem.W.KitX X.K u t P ∧ P s.heap ∧ u ≠ .builtin "__main__.__loader__#opaque" ∧ ∀ n ∈ six, PySem.W.kitOne X.K t (.type n) = some (k.is n) := by
  have go : ∀ {t : Value}, TyX X.K H v t → (∀ n ∈ six, PySem.W.kitOne X.K t (.type n) = some (k.is n)) → ∃ (t : Value) (P : Heap → Prop), PySem.W.KitX X.K u t P ∧ P s.heap ∧ u ≠ .builtin "__main__.__loader__#opaque" ∧ ∀ n ∈ six, PySem.W.kitOne X.K t (.type n) = some (k.is n) := fun ty hk => by
    obtain ⟨P, Z, p, hx⟩ := kit_of I rx ty
    exact ⟨_, P, Z, p, hx, hk⟩
  have b : ∀ {a : String}, Six0 a k → ∀ n ∈ six, PySem.W.kitOne X.K (.type a) (.type n) = some (k.is n) := fun h n hn => kit_ty (h n hn)
  cases h with
  | non => exact go (.base .non) (b (by decide +kernel))
  | bl c => exact go (.base (.bl c)) (b (by decide +kernel))
  | int i => exact go (.base (.int i)) (b (by decide +kernel))
  | str z => exact go (.base (.str z)) (b (by decide +kernel))
  | lst e => exact go (.base (.lst e)) (b (by decide +kernel))
  | frz e => exact go (.base (.frz e)) (b (by decide +kernel))
  | tup e => exact go (.base (.tup e)) (b (by decide +kernel))
  | dict e => exact go (.base (.dK e)) (b (by decide +kernel))
  | ins e c s => exact go (.base (.ins e c.cl c.ha c.hn c.ht c.hm)) s
  | @exc a d C fs e ed c s =>
    cases (show u = Value.ref a from rx)
    obtain ⟨t1, ho⟩ := exo_at I.hok e
    obtain ⟨mA, hns, rel⟩ := exd_at I.hok ed
    obtain ⟨oD, _, _, hoD, _, _⟩ := hns.count (within_of rel)
    exact ⟨_, _, kitx_X (od := oD) c, ⟨ho, rfl, rfl, hoD⟩, (fun z => nomatch z), s⟩
end
/-- isinstance(x, T), T one of the six -/
inductive RIsi (K : PySem.W.Frag) : List V → Hp → VK → Prop
  | ty {x : V} {n : String} {k : Knd} {H : Hp} {Q : VK} : Kn K H x k → n ∈ six → Q (.bl (k.is n)) H → RIsi K [x, .ty n] H Q
/-- isinstance(x, (T, ..)) -/
inductive RIsiT (K : PySem.W.Frag) : List V → Hp → VK → Prop
  | ty {x : V} {p : Addr} {ns : List String} {k : Knd} {H : Hp} {Q : VK} : Kn K H x k → H p = some (.tup (ns.map V.ty)) → (∀ n ∈ ns, n ∈ six) → Q (.bl (ns.any k.is)) H → RIsiT K [x, .ref p] H Q
theorem kitAny_map {K : PySem.W.Frag} {t : Value} {k : Knd} (h : ∀ n ∈ six, PySem.W.kitOne K t (.type n) = some (k.is n)) : ∀ ns : List String, (∀ n ∈ ns, n ∈ six) → PySem.W.kitAny K t (ns.map Value.type) = some (ns.any k.is)
  | [], _ => rfl
  | n :: ns, hn => by
    refine kitAny_cons (h n (hn n (List.mem_cons_self ..))) (fun e => ?_) fun e => ?_
    · rw [List.any_cons, e, Bool.false_or]
      exact kitAny_map h ns fun m hm => hn m (List.mem_cons_of_mem _ hm)
    · rw [List.any_cons, e, Bool.true_or]
theorem clsV_map : ∀ ns : List String, Paired ClsV (ns.map V.ty) (ns.map Value.type)
  | [] => .nil
  | n :: ns => .cons (.ty n) (clsV_map ns)
section
variable {X : Cx}
theorem call_isiU : CallR X (.builtin "isinstance") (RIsi X.K) := by
  intro pins s σ H xs us Q I r h
  cases h with
  | ty kn hn q =>
    obtain ⟨u1, u2, rfl, r1, r2⟩ := vals2 r
    cases (show u2 = Value.type _ from r2)
    obtain ⟨t, P, Z, p, hx, hk⟩ := kn_of I r1 kn
    exact PySem.W.kia_one Z I.kIn p (hk _ hn) hx fun tk => ⟨.bl _, H, I.tok tk, rfl, q⟩
theorem call_isiTU : CallR X (.builtin "isinstance") (RIsiT X.K) := by
  intro pins s σ H xs us Q I r h
  cases h with
  | @ty x tp ns k _ _ kn hT hn q =>
    obtain ⟨u1, u2, rfl, r1, r2⟩ := vals2 r
    cases (show u2 = Value.ref tp from r2)
    obtain ⟨t, P, Z, p, hx, hk⟩ := kn_of I r1 kn
    obtain ⟨_, its, rv, o, h1, h2, n, h3⟩ := (show ObjOk X.prog X.w H s.heap tp (.tup (ns.map V.ty)) from I.hok tp _ hT)
    have e3 := ClsV.all (clsV_map ns) rv
    subst e3
    obtain ⟨oc, od, dt, sl⟩ := o
    simp only at h2 h3
    subst h2 h3
    exact PySem.W.kia_tup Z I.kIn p h1 (kitAny_map hk ns hn) hx fun tk => ⟨.bl _, H, I.tok tk, rfl, q⟩
end
end Wk

set_option maxRecDepth 100000
set_option maxHeartbeats 4000000
/-! More steps through a reading. -/
namespace Wk
open PySem PySem.Spec PyProof.Rows L2
section
variable {K : PySem.W.Frag} {σ : L2.St} {H : Hp} {Q : VK} {ta tb tc te to : TE} {t tk : TA} {tl th : TO} {D : Ends}
theorem se_andV (h : ta σ H fun x H1 => ∃ c, x = .bl c ∧ if c = true then tb σ H1 Q else Q (.bl false) H1) : tAndV ta tb σ H Q := h
theorem se_orV (h : ta σ H fun x H1 => ∃ c, x = .bl c ∧ if c = true then Q (.bl true) H1 else tb σ H1 Q) : tOrV ta tb σ H Q := h
theorem se_notV (h : ta σ H fun x H1 => ∃ c, x = .bl c ∧ Q (.bl (!c)) H1) : tNotV ta σ H Q := h
theorem se_chain {r r' : R2} (h : ta σ H fun x H1 => tb σ H1 fun y H2 => r x y H2 fun z H3 => ∃ k, z = .bl k ∧ (if k = true then tc σ H3 fun w' H4 => r' y w' H4 Q else Q (.bl false) H3)) : tChain r r' ta tb tc σ H Q := h
theorem se_sl {r : V → Option Int → Option Int → Hp → VK → Prop} (h : te σ H fun x H1 => tl σ H1 fun l H2 => th σ H2 fun u H3 => r x l u H3 Q) : tSl r te tl th σ H Q := h
theorem so_none {P : Option Int → Hp → Prop} (h : P none H) : tNoPart σ H P := h
theorem so_some {P : Option Int → Hp → Prop} (h : te σ H fun x H1 => ∃ i, x = .int i ∧ P (some i) H1) : tPart te σ H P := h
theorem so_int {i : Int} {P : Int → Prop} (h : P i) : ∃ j, V.int i = .int j ∧ P j := ⟨i, rfl, h⟩
theorem se_m1 {r : V → List V → Hp → VK → Prop} (h : to σ H fun x H1 => (∃ a, x = .str a) ∧ te σ H1 fun y H2 => r x [y] H2 Q) : tM1 r to te σ H Q := h
theorem se_m0 {r : V → List V → Hp → VK → Prop} (h : to σ H fun x H1 => (∃ a, x = .str a) ∧ r x [] H1 Q) : tM0 r to σ H Q := h
theorem m_str {z : Str} {A : Prop} (h : A) : (∃ a, V.str z = .str a) ∧ A := ⟨⟨z, rfl⟩, h⟩
def MkEP (C : Addr) (vs : List V) (H : Hp) (Q : VK) : Prop := ∃ v, vs = [v] ∧ ∀ a d, H a = none → H d = none → d ≠ a → Q (.ref a) (upd (upd H d (exd d [(("found" : Str), v)])) a (exo a C (some d)))
def MkXP (C : Addr) (vs : List V) (H : Hp) (Q : XK) : Prop := ∃ v, vs = [v] ∧ ∀ d, H d = none → Q (.ref C) (some d) (upd H d (.xd [(("found" : Str), v)]))
theorem se_mkE {C : Addr} (h : t σ H fun vs H1 => MkEP C vs H1 Q) : tMkE C t σ H Q := h
theorem mkE_now {H D : Hp} {R : List (Addr × HO)} {v : V} {C : Addr} {Q : VK} (h : HI H R D) (k : ∀ a d H' D', HI H' R D' → Ex D D' → D' a = some (exo a C (some d)) → D' d = some (exd d [(("found" : Str), v)]) → Q (.ref a) H') : MkEP C [v] H Q := mkE_use h k
theorem st_raiseX {C : Addr} {W : L2.WX} (h : t σ H fun vs H1 => MkXP C vs H1 fun cls d H' => W cls d σ H') : tRaiseX C W t D σ H := h
theorem mkX_now {H D : Hp} {R : List (Addr × HO)} {v : V} {C : Addr} {Q : XK} (h : HI H R D) (k : ∀ d H' D', HI H' R D' → Ex D D' → D' d = some (.xd [(("found" : Str), v)]) → Q (.ref C) (some d) H') : MkXP C [v] H Q := mkX_use h k
theorem st_par {i j : Nat} (h : t σ H fun vs H1 => ∃ v w, vs = [v, w] ∧ D.nx ((σ.set i (some v)).set j (some w)) H1) : tPar i j t D σ H := h
theorem par_mk {x y : V} {P : V → V → Prop} (h : P x y) : ∃ v w, [x, y] = [v, w] ∧ P v w := ⟨x, y, rfl, h⟩
theorem st_aug {i : Nat} {ti : TIp} {x : V} (e : σ[i]? = some (some x)) (h : te σ H fun y H1 => ti x y H1 fun z H2 => D.nx (σ.set i (some z)) H2) : tAug i te ti D σ H := ⟨x, e, h⟩
inductive RMx : List V → Hp → VK → Prop
  | mk {i j : Int} {H : Hp} {Q : VK} : (∀ m, i ≤ m → j ≤ m → (m = i ∨ m = j) → Q (.int m) H) → RMx [.int i, .int j] H Q
inductive RMn : List V → Hp → VK → Prop
  | mk {i j : Int} {H : Hp} {Q : VK} : (∀ m, m ≤ i → m ≤ j → (m = i ∨ m = j) → Q (.int m) H) → RMn [.int i, .int j] H Q
inductive RAll : List V → Hp → VK → Prop
  | mk {p : Addr} {bs : List Bool} {H : Hp} {Q : VK} : H p = some (.lst (bs.map V.bl)) → Q (.bl (bs.all id)) H → RAll [.ref p] H Q
inductive RSum : List V → Hp → VK → Prop
  | mk {p : Addr} {ns : List Int} {H : Hp} {Q : VK} : H p = some (.lst (ns.map V.int)) → Q (.int ns.sum) H → RSum [.ref p] H Q
inductive RJoin : V → List V → Hp → VK → Prop
  | mk {z : Str} {p : Addr} {ys : List Str} {H : Hp} {Q : VK} : H p = some (.lst (ys.map V.str)) → (ys.map (·.length)).sum + ys.length * z.length ≤ 16777216 → Q (.str (Txt.join z ys)) H → RJoin (.str z) [.ref p] H Q
inductive RStarts : V → List V → Hp → VK → Prop
  | mk {x y : Str} {H : Hp} {Q : VK} : Q (.bl (Txt.startswith x y)) H → RStarts (.str x) [.str y] H Q
inductive RFind : V → List V → Hp → VK → Prop
  | mk {x y : Str} {H : Hp} {Q : VK} : Q (.int (Txt.find x y)) H → RFind (.str x) [.str y] H Q
/-- str(x) -/
inductive RStr : List V → Hp → VK → Prop
  | int {i : Int} {H : Hp} {Q : VK} : i.natAbs.log2 < 1920 → Q (.str (toString i)) H → RStr [.int i] H Q
/-- int(x) -/
inductive RInt : List V → Hp → VK → Prop
  | bl {b : Bool} {H : Hp} {Q : VK} : Q (.int (if b then 1 else 0)) H → RInt [.bl b] H Q
  | str {z : Str} {n : Int} {H : Hp} {Q : VK} : PySem.intText? z = some n → z.length ≤ 640 → Q (.int n) H → RInt [.str z] H Q
theorem lc_end {A B : Prop} (a : A) (b : B) : A ∧ B := ⟨a, b⟩
end
section
variable {X : Cx} {o e : Expr} {to te : TE}
theorem call_maxU (hc : X.calm = true) : CallR X (.builtin "max") RMx := by
  intro pins s σ H xs us Q I r h
  cases h with
  | @mk i j _ _ k =>
    refine call_max2 hc pins s σ H _ us Q I r ⟨i, j, rfl, ?_⟩
    by_cases c : j > i
    · rw [if_pos c]
      exact k j (by omega) (by omega) (.inr rfl)
    · rw [if_neg c]
      exact k i (by omega) (by omega) (.inl rfl)
theorem call_minU (hc : X.calm = true) : CallR X (.builtin "min") RMn := by
  intro pins s σ H xs us Q I r h
  cases h with
  | @mk i j _ _ k =>
    refine call_min2 hc pins s σ H _ us Q I r ⟨i, j, rfl, ?_⟩
    by_cases c : j < i
    · rw [if_pos c]
      exact k j (by omega) (by omega) (.inr rfl)
    · rw [if_neg c]
      exact k i (by omega) (by omega) (.inl rfl)
theorem call_allU (hc : X.calm = true) : CallR X (.builtin "all") RAll := by
  intro pins s σ H xs us Q I r h
  cases h with
  | mk e q => exact cr_all hc pins s σ H _ us Q I r ⟨_, _, rfl, SqL.of e, q⟩
theorem call_sumU (hc : X.calm = true) : CallR X (.builtin "sum") RSum := by
  intro pins s σ H xs us Q I r h
  cases h with
  | mk e q => exact cr_sum hc pins s σ H _ us Q I r ⟨_, _, rfl, SqL.of e, q⟩
theorem mt_joinU : MtR X "str.join" RJoin := by
  intro pins s σ H x xs v us Q I rx rs h
  cases h with
  | mk e hl q => exact mt_join pins s σ H _ _ v us Q I rx rs ⟨_, _, _, rfl, rfl, .inl (SqL.of e), hl, q⟩
theorem mt_startsU : MtR X "str.startswith" RStarts := by
  intro pins s σ H x xs v us Q I rx rs h
  cases h with
  | mk q => exact mt_startswith pins s σ H _ _ v us Q I rx rs ⟨_, _, rfl, rfl, q⟩
theorem mt_findU : MtR X "str.find" RFind := by
  intro pins s σ H x xs v us Q I rx rs h
  cases h with
  | mk q => exact mt_find pins s σ H _ _ v us Q I rx rs ⟨_, _, rfl, rfl, q⟩
theorem call_strU : CallR X (.type "str") RStr := by
  intro pins s σ H xs us Q I r h
  cases h with
  | int hl q => exact call_str_int pins s σ H _ us Q I r ⟨_, rfl, hl, q⟩
theorem call_intU : CallR X (.type "int") RInt := by
  intro pins s σ H xs us Q I r h
  cases h with
  | bl q => exact call_int1 pins s σ H _ us Q I r (.inr ⟨_, rfl, q⟩)
  | str h1 h2 q => exact call_int_str pins s σ H _ us Q I r ⟨_, _, rfl, h1, h2, q⟩
end
theorem log2_small {i : Int} (h : i.natAbs < 2 ^ 200) : i.natAbs.log2 < 1920 := by
  by_cases z : i.natAbs = 0
  · rw [z]
    decide
  · have := (Nat.log2_lt z (k := 200)).mpr h
    omega
theorem pe_gi {X : Cx} {x : Str} {p : Pos} {i : Int} (hg : Gl X x) (h : ∃ t, X.mg x = some (.int i t)) (hdb : (x == ("__debug__" : Str)) = false := by decide) : PE X (.Name x p) (tC (.int i)) := let ⟨t, e⟩ := h; pe_glob hg e ⟨t, rfl⟩ hdb
theorem pe_gs {X : Cx} {x z : Str} {p : Pos} (hg : Gl X x) (h : ∃ t, X.mg x = some (.str z t)) (hdb : (x == ("__debug__" : Str)) = false := by decide) : PE X (.Name x p) (tC (.str z)) := let ⟨t, e⟩ := h; pe_glob hg e ⟨t, rfl⟩ hdb
section
variable {H : Hp} {Q : VK} {K : PySem.W.Frag}
theorem ru_mk {g : Int → V} {i : Int} (h : Q (g i) H) : rU g (.int i) H Q := ⟨i, rfl, h⟩
theorem req_int {i j : Int} (q : Q (.bl (decide (i = j))) H) : REq false (.int i) (.int j) H Q := .scal rfl (by
  have e : decide (V.int i = V.int j) = decide (i = j) := by simp
  rw [← e] at q
  exact q)
theorem rne_int {i j : Int} (q : Q (.bl (!decide (i = j))) H) : REq true (.int i) (.int j) H Q := .scal rfl (by
  have e : decide (V.int i = V.int j) = decide (i = j) := by simp
  rw [← e] at q
  exact q)
theorem req_str {i j : Str} (q : Q (.bl (decide (i = j))) H) : REq false (.str i) (.str j) H Q := .scal rfl (by
  have e : decide (V.str i = V.str j) = decide (i = j) := by simp
  rw [← e] at q
  exact q)
theorem rne_str {i j : Str} (q : Q (.bl (!decide (i = j))) H) : REq true (.str i) (.str j) H Q := .scal rfl (by
  have e : decide (V.str i = V.str j) = decide (i = j) := by simp
  rw [← e] at q
  exact q)
theorem req_dat {x y : V} {d e : PyData} (h1 : Rep H x d) (h2 : Rep H y e) (n1 : d.hasDict = false) (n2 : e.hasDict = false) (s1 : SeqAt.shaped d = true) (s2 : SeqAt.shaped e = true) (q : Q (.bl (PyData.eqv d e)) H) : REq false x y H Q := .dat h1 h2 n1 n2 s1 s2 q
theorem rne_dat {x y : V} {d e : PyData} (h1 : Rep H x d) (h2 : Rep H y e) (n1 : d.hasDict = false) (n2 : e.hasDict = false) (s1 : SeqAt.shaped d = true) (s2 : SeqAt.shaped e = true) (q : Q (.bl (!PyData.eqv d e)) H) : REq true x y H Q := .dat h1 h2 n1 n2 s1 s2 q
theorem ris_non {x : V} (q : Q (.bl (decide (x = .non))) H) : RIs false x .non H Q := .non q
theorem ris_nonN {x : V} (q : Q (.bl (!decide (x = .non))) H) : RIs true x .non H Q := .non q
theorem ris_bl {x : V} {b : Bool} (q : Q (.bl (decide (x = .bl b))) H) : RIs false x (.bl b) H Q := .bl q
theorem ris_blN {x : V} {b : Bool} (q : Q (.bl (!decide (x = .bl b))) H) : RIs true x (.bl b) H Q := .bl q
theorem rin_sign {c : Nat} {z : Str} (q : Q (.bl (decide (c ∈ z.cps.toList))) H) : RIn false (.str ⟨#[c]⟩) (.str z) H Q := .sign q
theorem rni_sign {c : Nat} {z : Str} (q : Q (.bl (!decide (c ∈ z.cps.toList))) H) : RIn true (.str ⟨#[c]⟩) (.str z) H Q := .sign q
end
theorem Ex.of {D D' : Hp} {a : Addr} {o : HO} (h : D a = some o) (x : Ex D D') : D' a = some o := x a o h
/-- a value is reckoned for all goals at once -/
theorem te_q {t : TE} {σ : L2.St} {H : Hp} {Q : VK} (v : V) (h1 : Q v H) (h2 : ∀ Q' : VK, Q' v H → t σ H Q') : t σ H Q := h2 Q h1
theorem repr_now {H : Hp} {Q : VK} {x : V} {d : PyData} (h : Rep H x d) (h1 : d.showable = true) (h2 : d.shown.length ≤ 1000000) (h3 : d.depth ≤ 60) (q : Q (.str d.shown) H) : rRepr [x] H Q := ⟨x, d, rfl, h, h1, small_ok h2, h3, q⟩
theorem callN_now {n m : Nat} {sp : Sp} {l l' : List V} {H : Hp} {Q : VK} {E : XK} (e : l = l') (h : sp l' H Q E) : n = n ∧ m = m ∧ sp l H Q E := by
  subst e
  exact ⟨rfl, rfl, h⟩
/-- a short text of plain signs -/
structure TxtOk (z : Str) : Prop where
  len : z.length ≤ 1000
  sg : ∀ c ∈ z.cps.toList, c < 1000
theorem TxtOk.ok {z : Str} (h : TxtOk z) : PyData.strOk z = true := by
  unfold PyData.strOk
  rw [Array.all_eq_true']
  intro c hc
  have := h.sg c (by simpa using hc)
  simp
  omega
theorem TxtOk.sign {z : Str} {c : Nat} (h : TxtOk z) (m : c ∈ z.cps.toList) : TxtOk ⟨#[c]⟩ := ⟨by show 1 ≤ 1000; decide, fun d hd => by
  simp at hd
  rw [hd]
  exact h.sg c m⟩
theorem rep_strs {H : Hp} : ∀ ys : List Str, RepL H (ys.map V.str) (ys.map PyData.str)
  | [] => .nil
  | y :: ys => .cons (.str y) (rep_strs ys)
theorem strs_dict : ∀ ys : List Str, PyData.hasDictAll (ys.map PyData.str) = false
  | [] => by simp [PyData.hasDictAll]
  | y :: ys => by
    have := strs_dict ys
    simp [PyData.hasDictAll, PyData.hasDict, this]
theorem strs_lay : ∀ ys : List Str, (∀ y ∈ ys, PyData.strOk y = true) → PyData.canLayAll0 (ys.map PyData.str) = true
  | [], _ => by simp [PyData.canLayAll0]
  | y :: ys, h => by
    have := strs_lay ys fun z hz => h z (List.mem_cons_of_mem _ hz)
    have h2 := h y (List.mem_cons_self ..)
    simp [PyData.canLayAll0, PyData.canLay0, this, h2]
theorem strs_depth : ∀ ys : List Str, PyData.depthAll (ys.map PyData.str) = 0
  | [] => by simp [PyData.depthAll]
  | y :: ys => by
    have := strs_depth ys
    simp [PyData.depthAll, PyData.depth, this]
theorem strs_shaped {ys : List Str} (h : ∀ y ∈ ys, PyData.strOk y = true) : SeqAt.shaped (.list (ys.map PyData.str)) = true := by
  unfold SeqAt.shaped
  simp [PyData.canLay0, strs_lay ys h, PyData.depth, strs_depth ys]
theorem req_nil {H : Hp} {Q : VK} {p q : Addr} {ys : List Str} (e1 : H p = some (.lst (ys.map V.str))) (e2 : H q = some (.lst [])) (h : ∀ y ∈ ys, PyData.strOk y = true) (g : Q (.bl ys.isEmpty) H) : REq false (.ref p) (.ref q) H Q := by
  refine REq.dat (d := .list (ys.map PyData.str)) (e := .list []) (.lst e1 (rep_strs ys)) (.lst e2 .nil) (by simp [PyData.hasDict, strs_dict]) (by simp [PyData.hasDict, PyData.hasDictAll]) (strs_shaped h) (by decide +kernel) ?_
  have e : PyData.eqv (.list (ys.map PyData.str)) (.list []) = ys.isEmpty := by cases ys <;> simp [PyData.eqv, PyData.eqvAll]
  rw [e]
  exact g
/-- how a value may be told apart -/
theorem Kn.told {K : PySem.W.Frag} {H : Hp} {v : V} {k : Knd} (h : Kn K H v k) : (v = .non ∧ k = .non) ∨ (∃ b, v = .bl b ∧ k = .bl) ∨ (∃ i, v = .int i ∧ k = .int) ∨ (∃ z, v = .str z ∧ k = .str) ∨ (∃ a, v = .ref a ∧ (k = .lst ∨ k = .tup ∨ k = .dict ∨ k = .oth)) := by
  cases h with
  | non => exact .inl ⟨rfl, rfl⟩
  | bl b => exact .inr (.inl ⟨b, rfl, rfl⟩)
  | int i => exact .inr (.inr (.inl ⟨i, rfl, rfl⟩))
  | str z => exact .inr (.inr (.inr (.inl ⟨z, rfl, rfl⟩)))
  | lst e => exact .inr (.inr (.inr (.inr ⟨_, rfl, .inl rfl⟩)))
  | frz e => exact .inr (.inr (.inr (.inr ⟨_, rfl, .inl rfl⟩)))
  | tup e => exact .inr (.inr (.inr (.inr ⟨_, rfl, .inr (.inl rfl)⟩)))
  | dict e => exact .inr (.inr (.inr (.inr ⟨_, rfl, .inr (.inr (.inl rfl))⟩)))
  | exc e ed c s => exact .inr (.inr (.inr (.inr ⟨_, rfl, .inr (.inr (.inr rfl))⟩)))
  | ins e c s => exact .inr (.inr (.inr (.inr ⟨_, rfl, .inr (.inr (.inr rfl))⟩)))
theorem Kn.not_int {K : PySem.W.Frag} {H : Hp} {v : V} {k : Knd} (h : Kn K H v k) (e : k.is "int" = false) : (∀ i, v ≠ .int i) ∧ ∀ b, v ≠ .bl b := by
  rcases h.told with ⟨rfl, rfl⟩ | ⟨b, rfl, rfl⟩ | ⟨i, rfl, rfl⟩ | ⟨z, rfl, rfl⟩ | ⟨a, rfl, _⟩
  · exact ⟨(fun _ z => nomatch z), (fun _ z => nomatch z)⟩
  · exact absurd e (by decide)
  · exact absurd e (by decide)
  · exact ⟨(fun _ z => nomatch z), (fun _ z => nomatch z)⟩
  · exact ⟨(fun _ z => nomatch z), (fun _ z => nomatch z)⟩
theorem Kn.not_str {K : PySem.W.Frag} {H : Hp} {v : V} {k : Knd} (h : Kn K H v k) (e : k.is "str" = false) : ∀ z, v ≠ .str z := by
  rcases h.told with ⟨rfl, rfl⟩ | ⟨b, rfl, rfl⟩ | ⟨i, rfl, rfl⟩ | ⟨z, rfl, rfl⟩ | ⟨a, rfl, _⟩
  · exact fun _ z => nomatch z
  · exact fun _ z => nomatch z
  · exact fun _ z => nomatch z
  · exact absurd e (by decide)
  · exact fun _ z => nomatch z
theorem Kn.of_str {K : PySem.W.Frag} {H : Hp} {v : V} {k : Knd} (h : Kn K H v k) (e : k.is "str" = true) : ∃ z, v = .str z ∧ k = .str := by
  rcases h.told with ⟨rfl, rfl⟩ | ⟨b, rfl, rfl⟩ | ⟨i, rfl, rfl⟩ | ⟨z, rfl, rfl⟩ | ⟨a, rfl, hk⟩
  · exact absurd e (by decide)
  · exact absurd e (by decide)
  · exact absurd e (by decide)
  · exact ⟨z, rfl, rfl⟩
  · rcases hk with rfl | rfl | rfl | rfl <;> exact absurd e (by decide)
theorem atI_nat {α : Type} {xs : List α} {i : Nat} : atI xs (i : Int) = xs[i]? := by
  unfold atI ixN
  rw [if_pos (by omega)]
  by_cases h : i < xs.length
  · rw [if_pos (by omega)]
    simp
  · rw [if_neg (by omega)]
    simp at h
    simp [h]
theorem atI_map {α β : Type} {f : α → β} {xs : List α} {i : Nat} {x : α} (h : xs[i]? = some x) : atI (xs.map f) (i : Int) = some (f x) := by
  rw [atI_nat, List.getElem?_map, h]
  rfl
theorem atI_ofI {α : Type} {xs : List α} {i : Int} (h : 0 ≤ i) : atI xs i = xs[i.toNat]? := by
  obtain ⟨n, rfl⟩ := Int.eq_ofNat_of_zero_le h
  rw [atI_nat]
  rfl
end Wk

set_option maxRecDepth 100000
set_option maxHeartbeats 4000000
/-! Plain texts: their signs and lengths; drawn things; dict displays. -/
namespace Wk
open PySem PySem.Spec PyProof.Rows L2
/-- every sign is a plain one -/
def Sg (z : Str) : Prop := ∀ c ∈ z.cps.toList, c < 1000
theorem sg_of {z : Str} (h : (z.cps.toList.all fun c => decide (c < 1000)) = true) : Sg z := fun c hc => of_decide_eq_true (List.all_eq_true.mp h c hc)
theorem len_app (a b : Str) : (a ++ b).length = a.length + b.length := PySem.Str.length_append a b
theorem tl_app (a b : Str) : (a ++ b).cps.toList = a.cps.toList ++ b.cps.toList := by
  rw [PySem.Str.cps_append]
  simp
theorem Sg.app {a b : Str} (h : Sg a) (k : Sg b) : Sg (a ++ b) := fun c hc => by
  rw [tl_app] at hc
  rcases List.mem_append.mp hc with h1 | h1
  · exact h c h1
  · exact k c h1
theorem Sg.cut {z : Str} (h : Sg z) (lo hi : Option Int) : Sg (cutS z lo hi) := fun c hc => by
  unfold cutS at hc
  simp only at hc
  exact h c (List.mem_of_mem_drop (List.mem_of_mem_take (by simpa using hc)))
theorem len_cut (z : Str) (lo hi : Option Int) : (cutS z lo hi).length ≤ z.length := by
  show ((z.cps.toList.drop _).take _).toArray.size ≤ z.length
  rw [List.size_toArray, List.length_take, List.length_drop, cps_len0]
  omega
where cps_len0 {z : Str} : z.cps.toList.length = z.length := rfl
theorem TxtOk.mk' {z : Str} (h1 : z.length ≤ 1000) (h2 : Sg z) : TxtOk z := ⟨h1, h2⟩
theorem Sg.one {z : Str} {c : Nat} (h : Sg z) (m : c ∈ z.cps.toList) : Sg ⟨#[c]⟩ := fun d hd => by
  simp at hd
  rw [hd]
  exact h c m
/-- a slice, a sum of texts, told by what they are made of alone -/
theorem rsl_some {z : Str} {lo hi : Option Int} {H : Hp} {Q : VK} (hl : z.length ≤ 1000000) (s : Sg z) (k : ∀ y, y.length ≤ z.length → Sg y → Q (.str y) H) : RSl (.str z) lo hi H Q := RSl.str (small_ok hl) (k _ (len_cut ..) (s.cut _ _))
theorem radd_some {a b : Str} {H : Hp} {Q : VK} (hl : a.length + b.length ≤ 1000000) (s1 : Sg a) (s2 : Sg b) (k : ∀ y, y.length = a.length + b.length → Sg y → Q (.str y) H) : RAdd (.str a) (.str b) H Q := RAdd.str (small_ok hl) (k _ (len_app ..) (s1.app s2))
theorem rep_size (a : Array Nat) : ∀ (n : Nat) (acc : Array Nat), ((List.replicate n a).foldl (· ++ ·) acc).size = acc.size + a.size * n
  | 0, acc => by simp
  | n + 1, acc => by
    rw [List.replicate_succ, List.foldl_cons, rep_size a n, Array.size_append, Nat.mul_succ]
    omega
theorem rep_mem (a : Array Nat) {c : Nat} : ∀ (n : Nat) (acc : Array Nat), c ∈ ((List.replicate n a).foldl (· ++ ·) acc).toList → c ∈ acc.toList ∨ c ∈ a.toList
  | 0, acc, h => .inl h
  | n + 1, acc, h => by
    rw [List.replicate_succ, List.foldl_cons] at h
    rcases rep_mem a n _ h with q | q
    · rw [Array.toList_append] at q
      exact List.mem_append.mp q
    · exact .inr q
theorem rmul_some {a : Str} {n : Int} {H : Hp} {Q : VK} (a0 : a.length = 1) (k0 : 1 ≤ n) (k1 : n ≤ 1000) (s : Sg a) (k : ∀ y, y.length = n.toNat → Sg y → Q (.str y) H) : RMul (.str a) (.int n) H Q := by
  refine RMul.str (by omega) (by omega) k0 k1 (k _ ?_ fun c hc => ?_)
  · show ((List.replicate n.toNat a.cps).foldl (· ++ ·) #[]).size = _
    rw [rep_size, show a.cps.size = 1 from a0]
    simp
  · rcases rep_mem a.cps n.toNat #[] hc with q | q
    · simp at q
    · exact s c q
theorem tst {i : Int} (h : i.natAbs < 10 ^ 30) : (Str.ofString (toString i)).length ≤ 31 ∧ Sg (Str.ofString (toString i)) := by
  refine ⟨?_, fun c hc => ?_⟩
  · rw [PySem.ofString_length]
    exact PySem.int_text_length_le10 (by decide) h
  · by_cases q : c < 1000
    · exact q
    · exact absurd hc (PyProof.Rows.int_text_free' c ⟨by omega, by omega⟩ i)
/-- texts of one plain sign each -/
def Ones (ys : List Str) : Prop := ∀ y ∈ ys, y.length = 1 ∧ Sg y
theorem Ones.sum : ∀ {ys : List Str}, Ones ys → (ys.map (·.length)).sum = ys.length
  | [], _ => rfl
  | y :: ys, h => by
    have ih := Ones.sum (ys := ys) fun z hz => h z (List.mem_cons_of_mem _ hz)
    have e := (h y (List.mem_cons_self ..)).1
    simp only [List.map_cons, List.sum_cons, List.length_cons, ih, e]
    omega
theorem Ones.snoc {ys : List Str} {z : Str} {c : Nat} (h : Ones ys) (hz : Sg z) (m : c ∈ z.cps.toList) : Ones (ys ++ [⟨#[c]⟩]) := fun y hy => by
  rcases List.mem_append.mp hy with h1 | h1
  · exact h y h1
  · rw [List.mem_singleton.mp h1]
    exact ⟨rfl, hz.one m⟩
theorem ones_join : ∀ {ys : List Str}, Ones ys → (Txt.join "" ys).length = ys.length ∧ Sg (Txt.join "" ys)
  | [], _ => ⟨rfl, fun c hc => by simp [Txt.join, Builtin.Str.glued, Str.empty] at hc⟩
  | [y], h => by
    rw [TL.join_eq]
    show y.length = 1 ∧ Sg y
    exact h y (List.mem_cons_self ..)
  | x :: y :: r, h => by
    have ih := ones_join (ys := y :: r) fun z hz => h z (List.mem_cons_of_mem _ hz)
    have hx := h x (List.mem_cons_self ..)
    rw [TL.join_eq] at ih ⊢
    show (x ++ "" ++ Str.join "" (y :: r)).length = _ ∧ Sg (x ++ "" ++ Str.join "" (y :: r))
    have e : (x ++ ("" : Str)) = x := PySem.Str.append_empty x
    rw [e, len_app, ih.1, hx.1]
    refine ⟨by simp only [List.length_cons]; omega, hx.2.app ih.2⟩
/-- a drawn thing -/
def Th (K : PySem.W.Frag) (D : Hp) (v : V) : Prop := (∃ k, Kn K D v k) ∧ ∀ z, v = .str z → TxtOk z
theorem Th.kn {K : PySem.W.Frag} {D : Hp} {v : V} {k : Knd} (h : Kn K D v k) (n : ∀ z, v ≠ .str z := by intro z e; cases e) : Th K D v := ⟨⟨k, h⟩, fun z e => absurd e (n z)⟩
theorem Th.str {K : PySem.W.Frag} {D : Hp} {z : Str} (h : TxtOk z) : Th K D (.str z) := ⟨⟨_, .str z⟩, fun y e => by cases e; exact h⟩
theorem txt_of {z : Str} (h : (decide (z.length ≤ 1000) && z.cps.toList.all fun c => decide (c < 1000)) = true) : TxtOk z := by
  obtain ⟨a, b⟩ := He.ba h
  exact ⟨of_decide_eq_true a, sg_of b⟩
theorem Th.mono {K : PySem.W.Frag} {D D' : Hp} {v : V} (h : Th K D v) (x : Ex D D') : Th K D' v := by
  obtain ⟨⟨k, a⟩, b⟩ := h
  exact ⟨⟨k, a.mono x⟩, b⟩
/-- one of the items -/
theorem atI_all {α : Type} {xs : List α} {P : α → Prop} {r : Int} (h : ∀ v ∈ xs, P v) (h0 : 0 ≤ r) (h1 : r < xs.length) : ∃ v, atI xs r = some v ∧ P v := by
  obtain ⟨n, rfl⟩ := Int.eq_ofNat_of_zero_le h0
  have hn : n < xs.length := by omega
  refine ⟨xs[n], ?_, h _ (List.getElem_mem hn)⟩
  rw [atI_nat]
  exact List.getElem?_eq_getElem hn
theorem all_c {α : Type} {x : α} {xs : List α} {P : α → Prop} (a : P x) (b : ∀ v ∈ xs, P v) : ∀ v ∈ x :: xs, P v := fun v hv => by
  rcases List.mem_cons.mp hv with e | e
  · rw [e]
    exact a
  · exact b v e
theorem all_n {α : Type} {P : α → Prop} : ∀ v ∈ ([] : List α), P v := fun v hv => by cases hv
/-- a list of which one item is taken -/
theorem RIx.pick {p : Addr} {xs : List V} {P : V → Prop} {r : Int} {H : Hp} {Q : VK} (e : H p = some (.lst xs)) (h : ∀ v ∈ xs, P v) (h0 : 0 ≤ r) (h1 : r < xs.length) (q : ∀ v, P v → Q v H) : RIx (.ref p) (.int r) H Q := by
  obtain ⟨v, e2, hv⟩ := atI_all h h0 h1
  exact RIx.l e e2 (q v hv)
theorem RIx.pickD {p : Addr} {xs : List V} {P : Hp → V → Prop} {r : Int} {H D : Hp} {R : Cells} {Q : VK} (hi : HI H R D) (e : H p = some (.lst xs)) (h : ∀ v ∈ xs, P D v) (h0 : 0 ≤ r) (h1 : r < xs.length) (q : ∀ v, P D v → Q v H) : RIx (.ref p) (.int r) H Q := RIx.pick e h h0 h1 q
/-- a sign of a text -/
theorem RIx.sgn {z : Str} {r : Int} {H : Hp} {Q : VK} (hl : z.length ≤ 1000000) (h0 : 0 ≤ r) (h1 : r < z.length) (q : ∀ c, c ∈ z.cps.toList → Q (.str ⟨#[c]⟩) H) : RIx (.str z) (.int r) H Q := by
  obtain ⟨c, e2, hc⟩ := atI_all (xs := z.cps.toList) (P := fun c => c ∈ z.cps.toList) (fun c h => h) h0 (by rw [show z.cps.toList.length = z.length from rfl]; exact h1)
  exact RIx.s (small_ok hl) e2 (q c hc)
/-! ### dict displays -/
section
variable {K : PySem.W.Frag} {σ : L2.St} {H : Hp} {Q : VK}
theorem se_dnewK (h : AlD (.dK []) H Q) : tDNewK σ H Q := h
def DispP (p : Addr) (ps : List (V × V)) (H : Hp) (Q : VK) : Prop := H p = some (.dK []) ∧ ∃ kvs : List (Key × V), ps = kvs.map (fun kv => (kV kv.1, kv.2)) ∧ kvs.length ≤ 15 ∧ Q (.ref p) (upd H p (.dK (mergeK [] kvs)))
theorem se_disp {D : Hp} {R : Cells} {trs : List (TE × TE)} (hi : HI H R D) (h : ∀ p H1, HI H1 ((p, .dK []) :: R) D → tPairs trs σ H1 fun ps H2 => DispP p ps H2 Q) : tDisp trs σ H Q := fun p hp => h p _ (hi.new hp)
theorem sp_nil {N : List (V × V) → Hp → Prop} (h : N [] H) : tPairs [] σ H N := h
theorem sp_cons {tk tv : TE} {trs : List (TE × TE)} {N : List (V × V) → Hp → Prop} (h : tk σ H fun x H1 => tv σ H1 fun y H2 => tPairs trs σ H2 fun ps H3 => N ((x, y) :: ps) H3) : tPairs ((tk, tv) :: trs) σ H N := h
def keysOf : List (V × V) → Option (List (Key × V))
  | [] => some []
  | (.int i, v) :: r => (keysOf r).map fun l => (.inl i, v) :: l
  | (.str x, v) :: r => (keysOf r).map fun l => (.inr x, v) :: l
  | _ => none
theorem keysOf_ok : ∀ {ps : List (V × V)} {kvs : List (Key × V)}, keysOf ps = some kvs → ps = kvs.map fun kv => (kV kv.1, kv.2)
  | [], kvs, e => by
    cases e
    rfl
  | (x, v) :: r, kvs, e => by
    cases x with
    | int i =>
      obtain ⟨l, e1, rfl⟩ := Option.map_eq_some_iff.mp (show (keysOf r).map _ = some kvs from e)
      rw [keysOf_ok e1]
      rfl
    | str z =>
      obtain ⟨l, e1, rfl⟩ := Option.map_eq_some_iff.mp (show (keysOf r).map _ = some kvs from e)
      rw [keysOf_ok e1]
      rfl
    | _ => cases e
theorem disp_now {p : Addr} {ps : List (V × V)} {kvs : List (Key × V)} {R : Cells} {D : Hp} (hi : HI H ((p, .dK []) :: R) D) (e : keysOf ps = some kvs) (hl : kvs.length ≤ 15) (k : ∀ H' D', HI H' R D' → Ex D D' → D' p = some (.dK (mergeK [] kvs)) → Q (.ref p) H') : DispP p ps H Q :=
  ⟨hi.get (List.mem_cons_self ..), kvs, keysOf_ok e, hl, k _ _ (hi.set (u := .dK (mergeK [] kvs))).freeze (hi.set (u := .dK (mergeK [] kvs))).freezeX upd_same⟩
end
end Wk

set_option maxRecDepth 100000
set_option maxHeartbeats 4000000
/-! A law's end. -/
namespace Wk
open PySem PySem.Spec PyProof.Rows L2
def noList (K : PySem.W.Frag) : Bool := K.all fun p => !(p.2.cls == .type "list")
theorem noList_ok : ∀ {K : PySem.W.Frag} {a : Addr} {o : Obj}, noList K = true → K.lookup a = some o → o.cls = .type "list" → False
  | [], a, o, _, e, _ => nomatch (show (none : Option Obj) = some o from e)
  | (b, ob) :: r, a, o, h, e, hc => by
    unfold noList at h
    rw [List.all_cons] at h
    obtain ⟨h1, h2⟩ := He.ba h
    have e2 : (match a == b with | true => some ob | false => List.lookup a r) = some o := e
    cases q : (a == b) with
    | true =>
      rw [q] at e2
      have eo : ob = o := Option.some.inj e2
      rw [eo, hc] at h1
      exact absurd h1 (by decide +kernel)
    | false =>
      rw [q] at e2
      exact noList_ok (K := r) h2 e2 hc
theorem law_endG {l : PySem.W.OpenLaw} {n k : Nat} {q : Program} {loose : List Str} {XP : (Str → Option Value) → Heap → Prop} {YP : World → Heap → Prop} {d : DefRec} {x : Str}
    (hn : l.most = some n) (hn2 : n ≤ sizeLine) (hdf : d.params.defaults = []) (hr : Room k callerA)
    (F : ∀ (w : World) (mg : Str → Option Value) (fa : Addr) (h : Heap), YP w h → h.Ns mainGlobals mg → mg d.name = some (.ref fa) →
      ∃ (K : PySem.W.Frag) (sp : Sp), K.In h ∧ noList K = true ∧ (∀ (s : Shared) (u : Value), BindsTo s (fdOf K fa) ⟨[u], []⟩ [(x, u)]) ∧
        (∀ (H : Hp) (a : Addr) (o : Obj) (ns : List Int), ns.length ≤ n → HI H [] H → H a = some (.frz o (.lst (ns.map V.int))) → sp [.ref a] H (fun v _ => v = .bl true) fun _ _ _ => False) ∧
        ∀ base : Heap, K.In base → base.Ns mainGlobals mg → FnG l.prog w K mg base k fa [x] sp) :
    PySem.W.WalkO q loose XP YP l.row.toRowW d [] (fun f vs => PySem.call f vs) := by
  refine Att.attach_call hn hdf fun w s₀ s₁ mg mb fa o pm cd doc a vs ns G Y ho hd hcd hmg hobj hints hlen hg => ?_
  obtain ⟨K, sp, KX, hno, hb, hsp, hF⟩ := F w mg fa _ Y G.T.g hmg
  have hns := G.T.g
  have ha := hobj
  have hl : ns.length ≤ sizeLine := Nat.le_trans hlen hn2
  have rv := vals_ints hints
  have hk : K.lookup a = none := by
    cases e : K.lookup a with
    | none => rfl
    | some ob =>
      have e1 := KX a ob e
      rw [ha] at e1
      cases e1
      exact (noList_ok hno e rfl).elim
  let H : Hp := fun b => if b = a then some (.frz { cls := .type "list", data := .seq vs.toArray } (.lst (ns.map V.int))) else none
  have Ha : H a = some (.frz { cls := .type "list", data := .seq vs.toArray } (.lst (ns.map V.int))) := if_pos rfl
  have Hn : ∀ {b : Addr}, b ≠ a → H b = none := fun hb => if_neg hb
  have Hs : ∀ {b : Addr} {u : HO}, H b = some u → b = a := fun {b u} z => by
    by_cases hb : b = a
    · exact hb
    · rw [Hn hb] at z
      cases z
  have hok : HOk l.prog w H s₁.heap := fun b u z => by
    have hb := Hs z
    subst hb
    rw [Ha] at z
    cases z
    exact ⟨ha, by rw [List.length_map]; exact hl, vs, _, rv, ha⟩
  have base_of : ∀ {b : Addr} {o : Obj}, s₁.heap.get? b = some o → H b = none → (hidT s₁.heap H).get? b = some o := fun e n => hidT_get e n
  have noA : ∀ {b : Addr} {o : Obj} {es : Array DictEntry} {ep : Nat}, s₁.heap.get? b = some o → o.data = .dict es ep → H b = none := fun {b o es ep} e d => by
    by_cases hb : b = a
    · subst hb
      rw [ha] at e
      cases e
      have d' : Data.seq vs.toArray _ = Data.dict es ep := d
      cases d'
    · exact Hn hb
  have nsK : ∀ {b : Addr} {m : Str → Option Value}, s₁.heap.Ns b m → (hidT s₁.heap H).Ns b m := fun {b m} ⟨o, es, ep, e, d, r⟩ => ⟨o, es, ep, base_of e (noA e d), d, r⟩
  have hKb : K.In (hidT s₁.heap H) := fun b o e => base_of (KX b o e) (by
    by_cases hb : b = a
    · rw [hb, hk] at e
      cases e
    · exact Hn hb)
  have hM : Mod K mg (hidT s₁.heap H) := ⟨hKb, nsK hns, ⟨mb, nsK G.T.b, G.T.builtins⟩, let ⟨mc, h1, h2⟩ := G.T.nolimit; ⟨mc, nsK h1, h2⟩⟩
  have e0 : Env0 l.prog w K mg (hidT s₁.heap H) callerA [] s₁ H := ⟨rfl, hM, fun b o e => of_hidT e, Nat.le_of_eq (hidT_size _ _), trivial, fun b hb => absurd (show b ∈ ([] : List Addr) from hb) (by simp), hok, .of_eq hg⟩
  have hI : HI H [] H := ⟨by simp, (fun p hp => by cases hp), fun b u z => z⟩
  refine codeAny_mono ((hF _ hKb (nsK hns)).run callerA [] s₁ H ⟨[.ref a], []⟩ [.ref a] [.ref a] _ _ rfl hr e0 (hb s₁ (.ref a)) (.cons rfl .nil) (hsp H a _ ns hlen hI Ha)) fun r s' h => ?_
  cases r with
  | error e =>
    obtain ⟨_, _, _, _, _, _, _, _, _, _, _, _, z⟩ := h
    exact z.elim
  | ok fl =>
    cases fl with
    | next => exact False.elim h
    | brk => exact False.elim h
    | cont => exact False.elim h
    | ret u =>
      obtain ⟨v, H', os, bare, un, hok', r', q⟩ := h
      have q' : v = .bl true := q
      subst q'
      obtain rfl : u = Value.bool true := r'
      refine ⟨rfl, OldK.of_keep fun b o e => ?_, os, bare⟩
      by_cases hb : b = a
      · subst hb
        have z2 := un.frzs b _ _ Ha
        obtain ⟨e2, _⟩ := hok' b _ z2
        rw [ha] at e
        cases e
        exact e2
      · exact un.keep b o e (Hn hb) (by intro z; exact absurd (show b ∈ ([] : List Addr) from z) (by simp)) (by simp)
end Wk

set_option maxRecDepth 100000
set_option maxHeartbeats 4000000
/-! Own plain classes: their ==, !=, len, repr, str by the text's own defs; new instances over the heap in two parts. -/
namespace Wk
open PySem PySem.Spec PyProof.Rows L2
/-! ### a def of the text called from within a builtin -/
section
variable {X : Cx} {k : Nat} {f C : Addr} {ps : List Str} {sp : Sp} {pins : List (Addr × Obj)} {σ : L2.St} {H : Hp} {s : Shared} {Q : VK}
theorem run_at {A : Around} {us : List Value} {vs : List V} (F : FnG X.prog X.w X.K X.mg X.base k f ps sp) (hgu : A.guards = some []) (hfr : A.frames = X.A.frames) (hr : Room k A) (hb : Binds X.K (fdOf X.K f) ps []) (I : Inv X pins σ H s) (r : Vals vs us)
    (h : sp vs H Q (fun _ _ _ => False)) : wpAny (model X.prog X.w) A (call (.ref f) us) (fun u s' => ∃ v H', Inv X pins σ H' s' ∧ RelV v u ∧ Q v H') X.xe s := by
  have e0 : Env0 X.prog X.w X.K X.mg X.base A X.stack s H := by
    have e := I.env0
    exact ⟨by rw [hfr]; exact e.frames, e.mod, e.bs, e.bsz, e.funs, e.frf, e.hok, e.bare⟩
  have hl := F.len _ _ _ _ h
  refine wpAny_call (codeAny_mono (F.run A X.stack s H ⟨us, []⟩ us vs Q _ hgu hr e0 (by
    have := hb s us I.kIn (by simp [← r.length, hl])
    simpa using this) r h) fun r s' hq => ?_)
  cases r with
  | error e =>
    obtain ⟨_, _, _, _, _, _, _, _, _, _, _, _, z⟩ := hq
    exact z.elim
  | ok fl =>
    cases fl with
    | ret u =>
      obtain ⟨v, H', I', rv, q⟩ := I.after hq
      exact ⟨v, H', I', rv, q⟩
    | next => exact False.elim hq
    | brk => exact False.elim hq
    | cont => exact False.elim hq
/-- the instance as the library's rules want it -/
theorem ins_at {a dx : Addr} {fs : List (Str × V)} (I : Inv X pins σ H s) (e : H a = some (.ins C dx fs)) : ∃ ox od, PySem.W.InstAt s.heap a ox C (some od) := by
  obtain ⟨mA, O, _⟩ := ins_get I.hok e
  obtain ⟨od, J, _⟩ := O.look
  exact ⟨_, od, J⟩
end
/-! ### what the class tells -/
def seven : List String := ["NoneType", "int", "bool", "str", "list", "tuple", "dict"]
/-- an instance or an exception of an own class -/
inductive Ow (K : PySem.W.Frag) (H : Hp) : V → Addr → Prop where
  | exc {a d C : Addr} {fs : List (Str × V)} (e : H a = some (exo a C (some d))) (ed : H d = some (exd d fs)) (c : ExcC K C) : Ow K H (.ref a) C
  | ins {a C dx : Addr} {fs : List (Str × V)} (e : H a = some (.ins C dx fs)) (c : InsC K C) : Ow K H (.ref a) C
theorem Ow.mono {K : PySem.W.Frag} {H H' : Hp} {v : V} {C : Addr} (h : Ow K H v C) (x : Ex H H') : Ow K H' v C := by
  cases h with
  | exc e ed c => exact .exc (x _ _ e) (x _ _ ed) c
  | ins e c => exact .ins (x _ _ e) c
def Knd.tn : Knd → Option String
  | .non => some "NoneType"
  | .bl => some "bool"
  | .int => some "int"
  | .str => some "str"
  | .lst => some "list"
  | .tup => some "tuple"
  | .dict => some "dict"
  | .oth => none
/-- a value's type -/
inductive Ty (K : PySem.W.Frag) (H : Hp) : V → Value → Prop where
  | b {v : V} {k : Knd} {n : String} (h : Kn K H v k) (hn : n ∈ seven) (e : k.tn = some n) : Ty K H v (.type n)
  | o {v : V} {C : Addr} (h : Ow K H v C) : Ty K H v (.ref C)
section
variable {X : Cx} {pins : List (Addr × Obj)} {σ : L2.St} {H : Hp} {s : Shared}
theorem ty_of {v : V} {u t : Value} (I : Inv X pins σ H s) (rx : RelV v u) (h : Ty X.K H v t) : ∃ (P : Heap → Prop), PySem.W.KitX X.K u t P ∧ P s.heap ∧ u ≠ .builtin "__main__.__loader__#opaque" := by
  have go : ∀ {t : Value}, TyX X.K H v t → ∃ (P : Heap → Prop), PySem.W.KitX X.K u t P ∧ P s.heap ∧ u ≠ .builtin "__main__.__loader__#opaque" := fun ty => kit_of I rx ty
  cases h with
  | b h hn e =>
    cases h with
    | non => cases e; exact go (.base .non)
    | bl c => cases e; exact go (.base (.bl c))
    | int i => cases e; exact go (.base (.int i))
    | str z => cases e; exact go (.base (.str z))
    | lst e2 => cases e; exact go (.base (.lst e2))
    | frz e2 => cases e; exact go (.base (.frz e2))
    | tup e2 => cases e; exact go (.base (.tup e2))
    | dict e2 => cases e; exact go (.base (.dK e2))
    | exc e2 ed c s => cases e
    | ins e2 c s => cases e
  | o h =>
    cases h with
    | ins e c => exact go (.base (.ins e c.cl c.ha c.hn c.ht c.hm))
    | @exc a d C fs e ed c =>
      cases (show u = Value.ref a from rx)
      obtain ⟨t1, ho⟩ := exo_at I.hok e
      obtain ⟨mA, hns, rel⟩ := exd_at I.hok ed
      obtain ⟨oD, _, _, hoD, _, _⟩ := hns.count (within_of rel)
      exact ⟨_, kitx_X (od := oD) c, ⟨ho, rfl, rfl, hoD⟩, (fun z => nomatch z)⟩
end
/-- isinstance(x, C), C an own class -/
inductive RIsiC (K : PySem.W.Frag) : List V → Hp → VK → Prop
  | ty {x : V} {C : Addr} {t : Value} {b : Bool} {H : Hp} {Q : VK} : Ty K H x t → PySem.W.kitOne K t (.ref C) = some b → Q (.bl b) H → RIsiC K [x, .ref C] H Q
theorem call_isiC {X : Cx} : CallR X (.builtin "isinstance") (RIsiC X.K) := by
  intro pins s σ H xs us Q I r h
  cases h with
  | ty ty e q =>
    obtain ⟨u1, u2, rfl, r1, r2⟩ := vals2 r
    cases (show u2 = Value.ref _ from r2)
    obtain ⟨P, Z, p, hx⟩ := ty_of I r1 ty
    exact PySem.W.kia_one Z I.kIn p e hx fun tk => ⟨.bl _, H, I.tok tk, rfl, q⟩
/-! ### == and != -/
open PySem.W PySem.Calls in
theorem cmp_ne {prog : Program} {w : World} {A : Around} {E : Value → Shared → Prop} {s : Shared} {K : Frag} {x C f : Addr} {ox od : Obj} {b tb : Value} {Q : Value → Shared → Prop} (hu : A.in1.units < cLine) (X : K.In s.heap) (I : InstAt s.heap x ox C (some od)) (hb : Looks (model prog w) s.heap (typeOf b) tb) (hn : notFirst K C tb = true)
    (hs : findIn K (.ref C) "__ne__" = some (some (.builtin "object.__ne__"))) (hm : mroIn K C (.type "object") = some true) (he : findIn K (.ref C) "__eq__" = some (some (.ref f))) (hf : isFn K (.ref f) = true)
    (h : wpAny (model prog w) A.in1 (call (.ref f) [.ref x, b]) (fun v s' => ∃ c, v = .bool c ∧ Q (.bool (!c)) s') E s) : wpAny (model prog w) A (richCompare .NotEq (.ref x) b) Q E s := by
  have hu0 : A.units < cLine := Nat.lt_of_succ_lt hu
  have body : wpAny (model prog w) A (call (.builtin "object.__ne__") [.ref x, b]) (fun v s' => ∃ c, v = .bool c ∧ Q v s') E s := by
    refine wpAny_call (codeAny_call_builtin (by decide +kernel) PySem.F.cmpEntry_ne (check_slot (i := "object.__ne__") (owner := "object") (n := "__ne__") (by decide +kernel) (by decide +kernel) (I.type.andThen (looks_mroIn X hm)) (PySem.F.cmpArgs_ne _ _) ?_))
    unfold Builtin.«object.__ne__»
    refine wpAny_bind (m := slotArgs "__ne__" 1 _) (wpAny_pure ?_)
    refine wpAny_bind (m := cRoomFor _ _) (wpAny_cRoomFor hu ?_)
    refine wpAny_bind (m := callSpecialIfBound? (.ref x) (Str.ofString "__eq__") _) (ifBound_K X I he hf (wpAny_mono h (fun v s' hv => ?_) fun _ _ z => z))
    obtain ⟨c, rfl, q⟩ := hv
    refine wpAny_bind (m := truthy (.bool c)) (wpAny_truthy_bool ?_)
    exact wpAny_pure ⟨_, rfl, q⟩
  have bound : ∀ {P : Option Value → Shared → Prop}, wpAny (model prog w) A (call (.builtin "object.__ne__") [.ref x, b]) (fun v s' => P (some v) s') E s → wpAny (model prog w) A (callSpecialIfBound? (.ref x) "__ne__" [b]) P E s := fun {P} hP => by
    simp only [callSpecialIfBound?, bindSpecialIfBound?]
    have hbd : bindSpecial (.builtin "object.__ne__") (.ref x) = (pure (.builtin "object.__ne__", [.ref x]) : Sem (Value × List Value)) := by kernel_rfl
    refine wpAny_holding (wpAny_bind (wpAny_bind (wpAny_bind (I.type.here ((looks_findIn X hs).here ?_)))))
    refine wpAny_bind (wpAny_askSetting (wpAny_ite ?_))
    have fin : wpAny (model prog w) A (call (.builtin "object.__ne__") ([.ref x] ++ [b]) >>= fun v => pure (some v)) P E s := wpAny_bind (wpAny_mono hP (fun v s' z => wpAny_pure z) fun _ _ z => z)
    split
    · exact wpAny_bind ((Looks.of_pure hbd).here (wpAny_pure (by exact fin)))
    · exact wpAny_tryCatch (wpAny_bind ((Looks.of_pure hbd).here (wpAny_pure (by exact fin))))
  have one : wpAny (model prog w) A (tryCompare (.ref x) "__ne__" b) (fun r s' => ∃ v, r = some v ∧ Q v s') E s := by
    unfold tryCompare
    refine wpAny_bind (bound (wpAny_mono body (fun v s' hv => ?_) fun _ _ z => z))
    obtain ⟨c, rfl, q⟩ := hv
    exact wpAny_pure ⟨_, rfl, q⟩
  unfold richCompare
  simp only [oneThing_ref]
  refine wpAny_holding (wpAny_bind (wpAny_cRoomFor hu0 ?_))
  refine wpAny_bind (I.type.here (wpAny_bind (hb.here ?_)))
  have fin : wpAny (model prog w) A (tryCompare (.ref x) "__ne__" b) (fun r s' => ∃ v, r = some v ∧ Q v s') E s := one
  split
  · rename_i q
    have e : subIn K tb (.ref C) = some false := by
      rcases Bool.or_eq_true_iff.mp hn with e | e
      · rw [beq_iff_eq.mp e] at q
        simp at q
      · exact beq_iff_eq.mp e
    refine wpAny_bind ((looks_subIn X e).here ?_)
    simp only [Bool.false_eq_true, if_false]
    refine wpAny_bind (wpAny_mono fin (fun r s' z => ?_) fun _ _ z => z)
    obtain ⟨v, rfl, hq⟩ := z
    exact wpAny_pure hq
  · refine wpAny_bind (wpAny_pure ?_)
    simp only [Bool.false_eq_true, if_false]
    refine wpAny_bind (wpAny_mono fin (fun r s' z => ?_) fun _ _ z => z)
    obtain ⟨v, rfl, hq⟩ := z
    exact wpAny_pure hq
/-- what the class tells of its comparing -/
structure EqC (K : PySem.W.Frag) (C f : Addr) : Prop where
  eq : PySem.W.findIn K (.ref C) "__eq__" = some (some (.ref f))
  fn : PySem.W.isFn K (.ref f) = true
  ne : PySem.W.findIn K (.ref C) "__ne__" = some (some (.builtin "object.__ne__"))
  hm : PySem.W.mroIn K C (.type "object") = some true
/-- x == y, x != y: the left one an instance of C, or no own object is near -/
inductive REqO (K : PySem.W.Frag) (C : Addr) (sp : Sp) (neg : Bool) : V → V → Hp → VK → Prop
  | b {x y : V} {H : Hp} {Q : VK} : REq neg x y H Q → REqO K C sp neg x y H Q
  | o {a dx : Addr} {fs : List (Str × V)} {y : V} {t : Value} {H : Hp} {Q : VK} : H a = some (.ins C dx fs) → Ty K H y t → PySem.W.notFirst K C t = true →
      sp [.ref a, y] H (fun v H' => ∃ c, v = .bl c ∧ Q (.bl (if neg then !c else c)) H') (fun _ _ _ => False) → REqO K C sp neg (.ref a) y H Q
section
variable {X : Cx} {k : Nat} {f C : Addr} {sp : Sp} {ps : List Str}
theorem op_eqO (E : EqC X.K C f) (F : FnG X.prog X.w X.K X.mg X.base k f ps sp) (hb : Binds X.K (fdOf X.K f) ps []) (hgu : X.A.guards = some []) (hr : Room (k + 1) X.A) : OpR X (compareOp .Eq) (REqO X.K C sp false) := by
  intro pins s σ H x y v u Q I rx ry h
  cases h with
  | b q => exact op_eqU hr.units pins s σ H _ _ v u Q I rx ry q
  | @o a dx fs _ t _ _ e ty hn q =>
    obtain rfl : v = Value.ref a := rx
    obtain ⟨ox, od, J⟩ := ins_at I e
    obtain ⟨P, Z, p, _⟩ := ty_of I ry ty
    obtain ⟨m, hF⟩ := I.fr
    refine PySem.W.cmp_K (op := .Eq) hr.units0 hF I.ok.mod.kin J (Z.ty _ _ I.kIn p) hn E.eq E.fn ?_
    refine wpAny_mono (run_at F hgu rfl (hr.mono (Nat.le_succ _)) hb I (.cons (show L2.RelV (.ref a) (.ref a) from rfl) (.cons ry .nil)) q) (fun u' s' hu => ?_) fun _ _ z => z
    obtain ⟨w, H', I', rw', c, rfl, q'⟩ := hu
    obtain rfl : u' = Value.bool c := rw'
    exact ⟨.bl c, H', I', rfl, q'⟩
theorem op_neO (E : EqC X.K C f) (F : FnG X.prog X.w X.K X.mg X.base k f ps sp) (hb : Binds X.K (fdOf X.K f) ps []) (hgu : X.A.guards = some []) (hr : Room (k + 1) X.A) : OpR X (compareOp .NotEq) (REqO X.K C sp true) := by
  intro pins s σ H x y v u Q I rx ry h
  cases h with
  | b q => exact op_neU hr.units pins s σ H _ _ v u Q I rx ry q
  | @o a dx fs _ t _ _ e ty hn q =>
    obtain rfl : v = Value.ref a := rx
    obtain ⟨ox, od, J⟩ := ins_at I e
    obtain ⟨P, Z, p, _⟩ := ty_of I ry ty
    show wpAny (model X.prog X.w) X.A (richCompare .NotEq (.ref a) u) (EP X pins σ Q) X.xe s
    refine cmp_ne hr.in1.units0 I.kIn J (Z.ty _ _ I.kIn p) hn E.ne E.hm E.eq E.fn ?_
    refine wpAny_mono (run_at F (by exact hgu) rfl hr.in1 hb I (.cons (show L2.RelV (.ref a) (.ref a) from rfl) (.cons ry .nil)) q) (fun u' s' hu => ?_) fun _ _ z => z
    obtain ⟨w, H', I', rw', c, rfl, q'⟩ := hu
    obtain rfl : u' = Value.bool c := rw'
    exact ⟨c, rfl, ⟨.bl (!c), H', I', rfl, q'⟩⟩
end
/-! ### repr, str, len -/
/-- repr(x) of an instance of C, or of data -/
inductive RReprO (C : Addr) (sp : Sp) : List V → Hp → VK → Prop
  | b {xs : List V} {H : Hp} {Q : VK} : rRepr xs H Q → RReprO C sp xs H Q
  | o {a dx : Addr} {fs : List (Str × V)} {H : Hp} {Q : VK} : H a = some (.ins C dx fs) → sp [.ref a] H (fun v H' => ∃ z, v = .str z ∧ Q (.str z) H') (fun _ _ _ => False) → RReprO C sp [.ref a] H Q
inductive RStrO (C : Addr) (sp : Sp) : List V → Hp → VK → Prop
  | b {xs : List V} {H : Hp} {Q : VK} : RStr xs H Q → RStrO C sp xs H Q
  | o {a dx : Addr} {fs : List (Str × V)} {H : Hp} {Q : VK} : H a = some (.ins C dx fs) → sp [.ref a] H (fun v H' => ∃ z, v = .str z ∧ Q (.str z) H') (fun _ _ _ => False) → RStrO C sp [.ref a] H Q
section
variable {X : Cx} {k : Nat} {f C : Addr} {sp : Sp} {ps : List Str}
theorem call_reprO (hc : PySem.W.findIn X.K (.ref C) "__repr__" = some (some (.ref f))) (hf : PySem.W.isFn X.K (.ref f) = true) (F : FnG X.prog X.w X.K X.mg X.base k f ps sp) (hb : Binds X.K (fdOf X.K f) ps []) (hgu : X.A.guards = some []) (hr : Room (k + 1) X.A) (hs : HasSys X.K) :
    CallR X (.builtin "repr") (RReprO C sp) := by
  intro pins s σ H xs us Q I r h
  cases h with
  | b q => exact call_repr hgu hr hs pins s σ H _ us Q I r q
  | @o a dx fs _ _ e q =>
    obtain ⟨u, rfl, ru⟩ := vals1 r
    cases ru
    obtain ⟨ox, od, J⟩ := ins_at I e
    obtain ⟨m, hF⟩ := I.fr
    refine PySem.W.repr_K hr.in1.units0 hF I.ok.mod.kin J hc hf ?_
    refine wpAny_mono (run_at F (by exact hgu) rfl hr.in1 hb I (.cons (show L2.RelV (.ref a) (.ref a) from rfl) .nil) q) (fun u' s' hu => ?_) fun _ _ z => z
    obtain ⟨w, H', I', rw', z, rfl, q'⟩ := hu
    obtain ⟨t, rfl⟩ := rw'
    exact ⟨.str z, H', I', ⟨t, rfl⟩, q'⟩
theorem call_strO (hc : PySem.W.findIn X.K (.ref C) "__str__" = some (some (.ref f))) (hf : PySem.W.isFn X.K (.ref f) = true) (F : FnG X.prog X.w X.K X.mg X.base k f ps sp) (hb : Binds X.K (fdOf X.K f) ps []) (hgu : X.A.guards = some []) (hr : Room (k + 2) X.A) :
    CallR X (.type "str") (RStrO C sp) := by
  intro pins s σ H xs us Q I r h
  cases h with
  | b q => exact call_strU pins s σ H _ us Q I r q
  | @o a dx fs _ _ e q =>
    obtain ⟨u, rfl, ru⟩ := vals1 r
    cases ru
    obtain ⟨ox, od, J⟩ := ins_at I e
    refine PySem.W.kso_call hr.in1.in1.units0 I.kIn J hc hf ?_
    refine wpAny_mono (run_at F (by exact hgu) rfl hr.in1.in1 hb I (.cons (show L2.RelV (.ref a) (.ref a) from rfl) .nil) q) (fun u' s' hu => ?_) fun _ _ z => z
    obtain ⟨w, H', I', rw', z, rfl, q'⟩ := hu
    obtain ⟨t, rfl⟩ := rw'
    exact ⟨.str z, H', I', ⟨t, rfl⟩, q'⟩
end
end Wk

set_option maxRecDepth 100000
set_option maxHeartbeats 4000000
/-! Fields, methods, new instances, with keywords; steps over the heap in two parts. -/
namespace Wk
open PySem PySem.Spec PyProof.Rows L2
/-! ### an own class's facts in one -/
structure PC (K : PySem.W.Frag) (C : Addr) (fl : List Str) : Prop where
  c : Cls K C
  n : ∀ f ∈ fl, NoAttr K C f
def FldP (K : PySem.W.Frag) (f : Str) (x : V) (H : Hp) (Q : VK) : Prop := ∃ a C dx fs v, x = .ref a ∧ H a = some (.ins C dx fs) ∧ Cls K C ∧ NoAttr K C f ∧ fs.lookup f = some v ∧ Q v H
def SFldP (K : PySem.W.Frag) (f : Str) (x y : V) (H : Hp) (N : Hp → Prop) : Prop := ∃ a C dx fs, x = .ref a ∧ H a = some (.ins C dx fs) ∧ Cls K C ∧ NoAttr K C f ∧ fs.length < 1000 ∧ N (upd H a (.ins C dx (putF f y fs)))
def MethP (C : Addr) (m : Str) (x : V) (H : Hp) (N : Prop) : Prop := ∃ a dx fs, x = .ref a ∧ H a = some (.ins C dx fs) ∧ fs.lookup m = none ∧ N
def MakeP (C : Addr) (sp : Sp) (vs : V → List V) (H : Hp) (Q : VK) (E : XK) : Prop := ∀ x dx, H x = none → H dx = none → dx ≠ x → sp (vs (.ref x)) (upd (upd H dx (.own x)) x (.ins C dx [])) (fun v H2 => v = .non ∧ Q (.ref x) H2) E
section
variable {K : PySem.W.Frag} {σ : L2.St} {H D : Hp} {R : Cells} {Q : VK} {ta tv : TE} {t tk : TA} {f m : Str} {C a dx : Addr} {fs : List (Str × V)} {fl : List Str} {x y v : V} {sp : Sp} {dvs : List V} {E : L2.St → XK} {Ds : Ends}
theorem se_fld (h : ta σ H fun x H1 => FldP K f x H1 Q) : tFld K ta f σ H Q := h
theorem st_fld (h : tv σ H fun y H1 => ta σ H1 fun x H2 => SFldP K f x y H2 fun H3 => Ds.nx σ H3) : sFld K ta tv f Ds σ H := h
theorem fld_mk (e : H a = some (.ins C dx fs)) (pc : PC K C fl) (hf : f ∈ fl) (l : fs.lookup f = some v) (q : Q v H) : FldP K f (.ref a) H Q := ⟨a, C, dx, fs, v, rfl, e, pc.c, pc.n f hf, l, q⟩
theorem sfld_now {N : Hp → Prop} (hi : HI H ((a, .ins C dx fs) :: R) D) (pc : PC K C fl) (hf : f ∈ fl) (hl : fs.length < 1000) (k : ∀ H', HI H' ((a, .ins C dx (putF f y fs)) :: R) D → N H') : SFldP K f (.ref a) y H N :=
  ⟨a, C, dx, fs, rfl, hi.get (List.mem_cons_self ..), pc.c, pc.n f hf, hl, k _ hi.set⟩
theorem se_meth (h : ta σ H fun x H1 => MethP C m x H1 (t σ H1 fun vs H2 => sp (x :: (vs ++ dvs)) H2 Q (E σ))) : gMeth C m sp dvs E ta t σ H Q := h
theorem meth_mk {N : Prop} (e : H a = some (.ins C dx fs)) (l : fs.lookup m = none) (h : N) : MethP C m (.ref a) H N := ⟨a, dx, fs, rfl, e, l, h⟩
theorem se_make (h : t σ H fun vs H1 => MakeP C sp (fun x => x :: (vs ++ dvs)) H1 Q (E σ)) : gMake C sp dvs E t σ H Q := h
theorem make_now {vs : V → List V} {E : XK} (hi : HI H R D) (k : ∀ x dx H', HI H' ((x, .ins C dx []) :: (dx, .own x) :: R) D → sp (vs (.ref x)) H' (fun v H2 => v = .non ∧ Q (.ref x) H2) E) : MakeP C sp vs H Q E := fun x dx hx hd ne => by
  have h1 := hi.new (o := .own x) hd
  exact k x dx _ (h1.new (o := .ins C dx []) (by rw [upd_ne ne.symm]; exact hx))
theorem made_mk {P : Hp → Prop} {H : Hp} (h : P H) : (V.non = V.non) ∧ P H := ⟨rfl, h⟩
end
/-- the instance stands -/
theorem HI.freezeI {H D : Hp} {R : Cells} {a dx C : Addr} {fs : List (Str × V)} (h : HI H ((a, .ins C dx fs) :: (dx, .own a) :: R) D) : ∃ D', HI H R D' ∧ Ex D D' ∧ D' a = some (.ins C dx fs) := by
  have h1 := h.freeze
  have h2 := h1.freeze
  refine ⟨_, h2, h.freezeX.trans h1.freezeX, ?_⟩
  have ne : a ≠ dx := fun e => by
    have nd := h.nd
    simp only [List.map_cons] at nd
    exact (List.nodup_cons.mp nd).1 (by rw [e]; exact List.mem_cons_self ..)
  rw [upd_ne ne]
  exact upd_same
/-! ### calls with keywords -/
def gMethN (C : Addr) (m : Str) (n j : Nat) (sp : Sp) (gV : List V → List V → List V) (E : L2.St → XK) (ta : TE) (t tk : TA) : TE := fun σ H Q => ta σ H fun x H1 => MethP C m x H1 (t σ H1 fun vs H2 => tk σ H2 fun zs H3 => vs.length = n ∧ zs.length = j ∧ sp (gV (x :: vs) zs) H3 Q (E σ))
def gMakeN (C : Addr) (n j : Nat) (sp : Sp) (gV : List V → List V → List V) (E : L2.St → XK) (t tk : TA) : TE := fun σ H Q => t σ H fun vs H1 => tk σ H1 fun zs H2 => vs.length = n ∧ zs.length = j ∧ MakeP C sp (fun x => gV (x :: vs) zs) H2 Q (E σ)
section
variable {X : Cx} {k n : Nat} {f C : Addr} {ps ks : List Str} {sp : Sp} {E : L2.St → XK} {x m : Str} {p pos apos : Pos} {e o : Expr} {es : List Expr} {kws : List Keyword} {t tk : TA} {ta : TE} {gV : List V → List V → List V}
theorem ge_methN {pl : Sem Bool} (he : PE X o ta) (c : Cls X.K C) (hm : Meth X.K C m f) (F : FnG X.prog X.w X.K X.mg X.base k f ps sp) (hgu : X.A.guards = some []) (hr : Room k X.A) (hb : KB X.K (fdOf X.K f) ps (n + 1) ks gV) (hx : ∀ σ, PassG X σ (E σ)) (ha : PA X (e :: es) t) (hkw : PK X kws tk)
    (hall : (backToKw pos (keywordEach kws X.env)).all (·.1.isSome) = true := by rfl) (hks : (backToKw pos (keywordEach kws X.env)).filterMap (·.1) = ks := by rfl) (hst : starEach (e :: es) X.env = (false, eval e X.env) :: starEach es X.env := by rfl)
    (hpl : ((backTo pos (starEach (e :: es) X.env)).any (·.1) || (backToKw pos (keywordEach kws X.env)).any (·.1.isNone)) = false := by rfl)
    (ht : eval (.Call (.Attribute o m apos) (e :: es) kws pos) X.env = (do
      let ov ← eval o X.env
      standAt apos.atName
      let (f, first) ← holding [ov] (getMethod ov m pl)
      callWith pos f first (backTo pos (starEach (e :: es) X.env)) (backToKw pos (keywordEach kws X.env))) := by rfl) :
    PE X (.Call (.Attribute o m apos) (e :: es) kws pos) (gMethN C m n ks.length sp gV E ta t tk) := by
  refine ⟨fun pins s σ H Q I h => ?_⟩
  refine PySem.W.methodCall_KW (pl := pl) (thn (he.run pins s σ H _ I h) fun u s1 ⟨x, H1, I1, rx, a, dx, fs, ex, ea, l, q⟩ => ?_) ht
  subst ex
  obtain rfl : u = Value.ref a := rx
  refine getmeth_ok I1 ea c hm l ?_
  refine PySem.W.callWith_KW (first := [.ref a]) (h₀ := X.base) I.ok.mod.kin hm.kp hall (thn (ha.run pos pins s1 σ H1 _ I1 q) fun us s2 ⟨vs, H2, I2, r, q2⟩ => ?_) hpl hst
  refine thn (hkw.run pos pins s2 σ H2 _ I2 q2) fun ws s3 ⟨zs, H3, I3, rz, l1, l2, q3⟩ => ⟨I3.kIn, ?_⟩
  rw [hks]
  exact run_gN (us := Value.ref a :: us) (vs := V.ref a :: vs) F hgu hr hb (hx σ) I3 (.cons (show L2.RelV (.ref a) (.ref a) from rfl) r) rz (congrArg Nat.succ l1) l2 q3
theorem ge_methK {pl : Sem Bool} (he : PE X o ta) (c : Cls X.K C) (hm : Meth X.K C m f) (F : FnG X.prog X.w X.K X.mg X.base k f ps sp) (hgu : X.A.guards = some []) (hr : Room k X.A) (hb : KB X.K (fdOf X.K f) ps 1 ks gV) (hx : ∀ σ, PassG X σ (E σ)) (hkw : PK X kws tk)
    (hall : (backToKw pos (keywordEach kws X.env)).all (·.1.isSome) = true := by rfl) (hks : (backToKw pos (keywordEach kws X.env)).filterMap (·.1) = ks := by rfl)
    (hpl : ((backTo pos (starEach [] X.env)).any (·.1) || (backToKw pos (keywordEach kws X.env)).any (·.1.isNone)) = false := by rfl)
    (ht : eval (.Call (.Attribute o m apos) [] kws pos) X.env = (do
      let ov ← eval o X.env
      standAt apos.atName
      let (f, first) ← holding [ov] (getMethod ov m pl)
      callWith pos f first (backTo pos (starEach [] X.env)) (backToKw pos (keywordEach kws X.env))) := by rfl) :
    PE X (.Call (.Attribute o m apos) [] kws pos) (gMethN C m 0 ks.length sp gV E ta tNil tk) := by
  refine ⟨fun pins s σ H Q I h => ?_⟩
  refine PySem.W.methodCall_KW (pl := pl) (thn (he.run pins s σ H _ I h) fun u s1 ⟨x, H1, I1, rx, a, dx, fs, ex, ea, l, q⟩ => ?_) ht
  subst ex
  obtain rfl : u = Value.ref a := rx
  refine getmeth_ok I1 ea c hm l ?_
  refine PySem.W.callWith_KW0 (first := [.ref a]) (h₀ := X.base) I.ok.mod.kin hm.kp hall ?_ hpl
  refine thn (hkw.run pos pins s1 σ H1 _ I1 q) fun ws s3 ⟨zs, H3, I3, rz, l1, l2, q3⟩ => ⟨I3.kIn, ?_⟩
  rw [hks]
  exact run_gN (us := [Value.ref a]) (vs := [V.ref a]) F hgu hr hb (hx σ) I3 (.cons (show L2.RelV (.ref a) (.ref a) from rfl) .nil) rz rfl l2 q3
theorem run_mk {pins : List (Addr × Obj)} {σ : L2.St} {H : Hp} {s : Shared} {Q : VK} {us ws : List Value} {vs zs : List V} (M : Mk X.K C f) (F : FnG X.prog X.w X.K X.mg X.base k f ps sp) (hgu : X.A.guards = some []) (hr : Room (k + 1) X.A) (hb : KB X.K (fdOf X.K f) ps (n + 1) ks gV) (hx : PassG X σ (E σ))
    (I : Inv X pins σ H s) (r : Vals vs us) (rz : Vals zs ws) (l1 : vs.length = n) (l2 : zs.length = ks.length) (h : MakeP C sp (fun x => gV (x :: vs) zs) H Q (E σ)) : wpAny (model X.prog X.w) X.A (call (.ref C) us (ks.zip ws)) (EP X pins σ Q) X.xe s := by
  obtain ⟨g, hb⟩ := hb
  exact run_makeG M F hgu hr hx I (fun y => gV (y :: vs) zs) (fun y => g (y :: us) ws) (fun y s' KX => hb.to s' (Value.ref y :: us) ws KX (congrArg Nat.succ (r.length.symm.trans l1)) (rz.length.symm.trans l2)) (fun y => hb.rel (.cons (show L2.RelV (.ref y) (.ref y) from rfl) r) rz) h
/-- C(e, .., k = v, ..) -/
theorem ge_makeN (M : Mk X.K C f) (F : FnG X.prog X.w X.K X.mg X.base k f ps sp) (hgu : X.A.guards = some []) (hr : Room (k + 1) X.A) (hg : Gl X x) (hm : X.mg x = some (.ref C)) (hb : KB X.K (fdOf X.K f) ps (n + 1) ks gV) (hx : ∀ σ, PassG X σ (E σ)) (ha : PA X (e :: es) t) (hkw : PK X kws tk)
    (hdb : (x == ("__debug__" : Str)) = false := by decide) (hall : (backToKw pos (keywordEach kws X.env)).all (·.1.isSome) = true := by rfl) (hks : (backToKw pos (keywordEach kws X.env)).filterMap (·.1) = ks := by rfl)
    (he : starEach (e :: es) X.env = (false, eval e X.env) :: starEach es X.env := by rfl)
    (hpl : ((backTo pos (starEach (e :: es) X.env)).any (·.1) || (backToKw pos (keywordEach kws X.env)).any (·.1.isNone)) = false := by rfl) :
    PE X (.Call (.Name x p) (e :: es) kws pos) (gMakeN C n ks.length sp gV E t tk) := by
  refine ⟨fun pins s σ H Q I h => ?_⟩
  refine wpAny_Call_Name_kw (ld_glob I hg hm ?_ hdb)
  refine PySem.W.callWith_KW (h₀ := X.base) I.ok.mod.kin M.kp hall (thn (ha.run pos pins s σ H _ I h) fun us s1 ⟨vs, H1, I1, r, q⟩ => ?_) hpl he
  refine thn (hkw.run pos pins s1 σ H1 _ I1 q) fun ws s2 ⟨zs, H2, I2, rz, l1, l2, q2⟩ => ⟨I2.kIn, ?_⟩
  rw [hks]
  exact run_mk M F hgu hr hb (hx σ) I2 r rz l1 l2 q2
/-- C(k = v, ..) -/
theorem ge_makeK (M : Mk X.K C f) (F : FnG X.prog X.w X.K X.mg X.base k f ps sp) (hgu : X.A.guards = some []) (hr : Room (k + 1) X.A) (hg : Gl X x) (hm : X.mg x = some (.ref C)) (hb : KB X.K (fdOf X.K f) ps 1 ks gV) (hx : ∀ σ, PassG X σ (E σ)) (hkw : PK X kws tk)
    (hdb : (x == ("__debug__" : Str)) = false := by decide) (hall : (backToKw pos (keywordEach kws X.env)).all (·.1.isSome) = true := by rfl) (hks : (backToKw pos (keywordEach kws X.env)).filterMap (·.1) = ks := by rfl)
    (hpl : ((backTo pos (starEach [] X.env)).any (·.1) || (backToKw pos (keywordEach kws X.env)).any (·.1.isNone)) = false := by rfl) :
    PE X (.Call (.Name x p) [] kws pos) (gMakeN C 0 ks.length sp gV E tNil tk) := by
  refine ⟨fun pins s σ H Q I h => ?_⟩
  refine wpAny_Call_Name_kw (ld_glob I hg hm ?_ hdb)
  refine PySem.W.callWith_KW0 (h₀ := X.base) I.ok.mod.kin M.kp hall ?_ hpl
  refine thn (hkw.run pos pins s σ H _ I h) fun ws s2 ⟨zs, H2, I2, rz, l1, l2, q2⟩ => ⟨I2.kIn, ?_⟩
  rw [hks]
  exact run_mk (us := []) (vs := []) M F hgu hr hb (hx σ) I2 .nil rz rfl l2 q2
theorem se_methN {σ : L2.St} {H : Hp} {Q : VK} {j : Nat} (h : ta σ H fun x H1 => MethP C m x H1 (t σ H1 fun vs H2 => tk σ H2 fun zs H3 => vs.length = n ∧ zs.length = j ∧ sp (gV (x :: vs) zs) H3 Q (E σ))) : gMethN C m n j sp gV E ta t tk σ H Q := h
theorem se_makeN {σ : L2.St} {H : Hp} {Q : VK} {j : Nat} (h : t σ H fun vs H1 => tk σ H1 fun zs H2 => vs.length = n ∧ zs.length = j ∧ MakeP C sp (fun x => gV (x :: vs) zs) H2 Q (E σ)) : gMakeN C n j sp gV E t tk σ H Q := h
end
/-! ### facts by looking -/
def insB (n : Str) (K : PySem.W.Frag) : Bool := He.eqO (PySem.W.findIn K (.ref (He.ga K n)) "__class__") (some (some (.builtin "object.__class__"))) && (He.eqO (PySem.W.specialIn K (.builtin "object.__class__") "__get__") (some (some (.builtin "getset_descriptor.__get__"))) && (eqB (PySem.W.takesIn K (.builtin "object.__class__")) (some true) && eqB (PySem.W.mroIn K (He.ga K n) (.type "object")) (some true)))
theorem ins_ok {K : PySem.W.Frag} {n : Str} (c : Cls K (He.ga K n)) (h : insB n K = true) : InsC K (He.ga K n) := by
  obtain ⟨a, h⟩ := He.ba h
  obtain ⟨b, h⟩ := He.ba h
  obtain ⟨d, e⟩ := He.ba h
  exact ⟨c, He.eqO_ok a, He.eqO_ok b, of_decide_eq_true d, of_decide_eq_true e⟩
def pcB (n : Str) (fl : List Str) (K : PySem.W.Frag) : Bool := fl.all fun f => (He.Fa.noat n f).ok K
theorem pc_ok {K : PySem.W.Frag} {n : Str} {fl : List Str} (c : Cls K (He.ga K n)) (h : pcB n fl K = true) : PC K (He.ga K n) fl := ⟨c, fun f hf => He.noat_ok (List.all_eq_true.mp h f hf)⟩
def neB (n : Str) (K : PySem.W.Frag) : Bool := He.eqO (PySem.W.findIn K (.ref (He.ga K n)) "__ne__") (some (some (.builtin "object.__ne__")))
theorem eqc_ok {K : PySem.W.Frag} {n : Str} {f : Addr} (i : InsC K (He.ga K n)) (m : Meth K (He.ga K n) "__eq__" f) (h : neB n K = true) : EqC K (He.ga K n) f := ⟨m.at_, m.fn, He.eqO_ok h, i.hm⟩
def nfB (n : Str) (K : PySem.W.Frag) : Bool := seven.all fun t => PySem.W.notFirst K (He.ga K n) (.type t)
def nfC (n x : Str) (K : PySem.W.Frag) : Bool := PySem.W.notFirst K (He.ga K n) (.ref (He.ga K x))
def kbB (n : Str) (K : PySem.W.Frag) : Bool := seven.all fun t => eqB (PySem.W.kitOne K (.type t) (.ref (He.ga K n))) (some false)
def kiB (x n : Str) (b : Bool) (K : PySem.W.Frag) : Bool := eqB (PySem.W.kitOne K (.ref (He.ga K x)) (.ref (He.ga K n))) (some b)
/-! ### f-strings -/
inductive RFmt : V → Hp → VK → Prop
  | str {z : Str} {H : Hp} {Q : VK} : z.length ≤ 1000000 → Q (.str z) H → RFmt (.str z) H Q
  | int {i : Int} {H : Hp} {Q : VK} : i.natAbs.log2 < 1920 → Q (.str (toString i)) H → RFmt (.int i) H Q
def tFmtU (te : TE) : TE := fun σ H Q => te σ H fun x H1 => RFmt x H1 Q
theorem pe_fmtU {X : Cx} {e : Expr} {te : TE} {pos : Pos} (he : PE X e te) : PE X (.FormattedValue e (-1) none pos) (tFmtU te) := by
  refine ⟨fun pins s σ H Q I h => ?_⟩
  refine wpAny_FormattedValue_plain (thn (he.run pins s σ H _ I h) fun v s1 ⟨x, H1, I1, r1, q⟩ => ?_)
  cases q with
  | @str z _ _ hz q =>
    obtain ⟨t, rfl⟩ := r1
    exact wpAny_formatField_str ⟨.str z, H1, I1, ⟨t, rfl⟩, q⟩ ⟨.str z, H1, I1.tok _, ⟨_, rfl⟩, q⟩ (small_ok hz)
  | @int i _ _ hz q =>
    obtain ⟨t, rfl⟩ := r1
    exact wpAny_formatField_int hz ⟨.str (toString i), H1, I1.tok _, ⟨_, rfl⟩, q⟩
theorem sj_nil {σ : L2.St} {H : Hp} {acc : Str} {Q : Str → Hp → Prop} (h : Q acc H) : tJs [] acc σ H Q := h
theorem sj_cons {σ : L2.St} {H : Hp} {acc : Str} {t : TE} {ts : List TE} {Q : Str → Hp → Prop} (h : t σ H fun x H1 => ∃ y : Str, x = .str y ∧ (acc ++ y).length ≤ sizeLine ∧ tJs ts (acc ++ y) σ H1 Q) : tJs (t :: ts) acc σ H Q := h
theorem js_mk {acc z : Str} {P : Str → Prop} (hl : acc.length + z.length ≤ 1000000) (q : P z) : ∃ y : Str, V.str z = .str y ∧ (acc ++ y).length ≤ sizeLine ∧ P y := ⟨z, rfl, small_ok (by rw [len_app]; exact hl), q⟩
theorem se_fmt {te : TE} {σ : L2.St} {H : Hp} {Q : VK} (h : te σ H fun x H1 => RFmt x H1 Q) : tFmtU te σ H Q := h
end Wk

set_option maxRecDepth 100000
set_option maxHeartbeats 4000000
/-! try with several clauses `except X as e`; what the suite asks of its exception. -/
namespace Wk
open PySem PySem.Spec PyProof.Rows L2
/-- the clauses: each a name, bound; those that nothing reaches are left out -/
inductive HdsA (X : Cx) (Wout : WX) : List ExceptHandler → (Ends → WX) → Prop
  | nil : HdsA X Wout [] (fun _ => Wout)
  | never {hds : List ExceptHandler} : HdsA X Wout hds (fun _ _ _ _ _ => False)
  | asn {x n : Str} {c : Value} {i : Nat} {ts : Addr → Value → Option Addr → TS} {b₀ : Stmt} {suite : List Stmt} {np pos' : Pos} {hds : List ExceptHandler} {r : Ends → WX} (hi : X.N[i]? = some n) (hln : X.env.kindOf n = some .local) (hc : Names X x c)
      (hsu : ∀ (a : Addr) (oe : Obj) (cls : Value) (d : Option Addr) (pn : List (Addr × Obj)), Zc cls d oe → (∃ vs, oe.data = .fields vs) → PSs (X.suite a ((a, oe) :: pn)) (b₀ :: suite) (ts a cls d)) (hr : HdsA X Wout hds r) :
      HdsA X Wout (.ExceptHandler (some (.Name x np)) (some n) (b₀ :: suite) pos' :: hds) (fun D => wAs X.K c i ts (r D) D)
def tTryA (tb : WX → TS) (w : Ends → WX) : TS := fun D σ H => tb (w D) D σ H
section
variable {X : Cx} {body : List Stmt} {h₀ : ExceptHandler} {hds : List ExceptHandler} {pos : Pos} {tb : WX → TS} {Wout : WX} {w : Ends → WX}
theorem ps_try_A (hs : X.stack = X.env :: X.outer) (hf : X.env.frame = some X.env.locals) (hN : X.N.Nodup) (tk : Takes X Wout)
    (hb : ∀ (W : WX) (pn : List (Addr × Obj)) (xe : Value → Shared → Prop), Takes (X.tr pn xe) W → PassesOwn (model X.prog X.w) X.A X.env xe → PSs (X.tr pn xe) body (tb W))
    (hh : HdsA X Wout (h₀ :: hds) w) : PS X (.Try body (h₀ :: hds) [] [] pos) (tTryA tb w) := by
  refine ⟨fun pins s σ H D I h => ?_⟩
  have ok := I.ok
  have hfr : X.A.frames = some (X.env :: X.outer) := by rw [ok.frames, hs]
  refine wpAny_Try_except ?_
  refine wpAny_mono ((hb (w D) (X.pn ++ pins) (fun e s₁ => wpAny (model X.prog X.w) X.A (noteFrame e X.env) (fun _ s₂ => wpAny (model X.prog X.w) X.A (setFlight e none) (fun _ s₃ =>
    wpAny (model X.prog X.w) X.A (handleBy e X.env (h₀ :: hds)) (SP X pins D) X.xe s₃) X.xe s₂) X.xe s₁) (fun u s' xx => ?_) PassesOwn.looking).run [] s σ H D (I.toTry _) h) (fun f s1 hsp => ?_) (fun e s1 he => he)
  · -- the catch
    obtain ⟨a, B, sI, pins', σ', H', cls, d, rfl, J', nb, up, sky, na, os, ag, w'⟩ := xx
    have J : Inv X pins σ' H' sI := J'.ofTry ok
    have sky' : Sky B (X.env :: X.outer) a (Zc cls d) X.env.locals s'.heap := by rw [← hs]; exact sky
    show wpAny (model X.prog X.w) X.A (noteFrame (.ref a) X.env) _ _ _
    refine Sky.land Zc.steady hfr hf sky' fun h3 fl3 up3 => ?_
    have J3 : Inv X pins σ' H' { s' with heap := h3 } := J.landed nb fl3.1 (up.trans up3) os ag
    obtain ⟨oe3, vs3, he3, hz3, hd3⟩ := fl3.there
    have notFr : ∀ {h : Heap} {o : Obj} {vs : Array Value}, h.FunFrames B (X.env :: X.outer) → h.get? a = some o → o.data = .fields vs → a ∉ frs (X.env :: X.outer) := fun {h o vs} ff e dd hm => by
      obtain ⟨_, o', e', hnf⟩ := ff.mem hm
      rw [e] at e'; cases e'
      exact hnf _ dd
    have nfr := notFr fl3.2.2.1 he3 hd3
    have nL : a ≠ X.env.locals := fun z => nfr (List.mem_filterMap.mpr ⟨X.env, List.mem_cons_self, by rw [hf, z]⟩)
    have nF : a ∉ X.fs := fun hm => by
      obtain ⟨e, he, q⟩ := List.mem_filterMap.mp hm
      exact nfr (List.mem_filterMap.mpr ⟨e, List.mem_cons_of_mem _ he, q⟩)
    have S3 := J3.suite he3 hd3 na nL nF
    have go : ∀ {hds' : List ExceptHandler} {w2 : Ends → WX}, HdsA X Wout hds' w2 → w2 D cls d σ' H' →
        wpAny (model X.prog X.w) X.A (handleBy (.ref a) X.env hds') (SP X pins D) X.xe { s' with heap := h3 } := by
      intro hds' w2 hk
      induction hk with
      | never =>
        intro w
        exact w.elim
      | nil =>
        intro w
        refine wpAny_handleBy_nil ?_
        obtain ⟨k1, k2, k3, oe, vs, T, oT, ts', he, hz, hd, h1, hr⟩ := id fl3
        unfold PySem.passOn
        refine wpAny_bind (wpAny_field he hd h1 ?_)
        rw [if_neg (show ¬ ((Value.ref T == Value.none) = true) from by simp)]
        have fin : wpAny (model X.prog X.w) X.A (setFlight (.ref a) X.env.frame) (fun _ s4 => wpAny (model X.prog X.w) X.A (throw (.ref a) : Sem Flow) (SP X pins D) X.xe s4) X.xe { s' with heap := h3 } := by
          rw [hf]
          refine HandSPX.setFlight_upZ fl3 fun h4 hh4 up4 => wpAny_throw (tk _ _ ?_)
          exact ⟨a, B, sI, pins, σ', H', cls, d, rfl, J, nb, (up.trans up3).trans up4, .inr (.inr (by rw [hs]; exact hh4)), na, os, ag, w⟩
        first
          | exact wpAny_bind (wpAny_pure (wpAny_bind fin))
          | exact wpAny_bind fin
      | @asn x n c i ts b₀ suite np pos' hds2 r2 hi hln hc hsu r ih =>
        intro w
        obtain ⟨b, hb1, hyes, hno⟩ := w
        have hloc : Loc X.env.scope n := .inl hln
        refine wpAny_handleBy_cons (codeAny_handlers_test ?_) (by intro q; cases q)
        have LT : PySem.W.Looks (model X.prog X.w) h3 (typeOf (.ref a)) cls := fun A Q E s k q => wpAny_typeOf_ref (k _ _ he3) (by rw [hz3.1]; exact q)
        have LM := PySem.W.exm_one (M := model X.prog X.w) (J3.kIn) LT hb1
        have test : ∀ {Q : Value → Shared → Prop} {E : Value → Shared → Prop}, Q c { s' with heap := h3 } → wpAny (model X.prog X.w) (X.A.mark (some (.ref a))) (eval (.Name x np) X.env) Q E { s' with heap := h3 } := fun {Q E} q => by
          obtain ⟨hg, hdbg, hm | ⟨hm, hv, hnn⟩⟩ := hc
          · exact ld_glob (X := X.suite a ((a, oe3) :: (X.pn ++ pins))) S3 hg hm q hdbg
          · exact ld_blt (X := X.suite a ((a, oe3) :: (X.pn ++ pins))) S3 hg hm hv q hnn hdbg
        refine test (LM.here ?_)
        cases b with
        | true =>
          refine codeAny_handlers_suite_as ?_
          refine HandSPX.lands_againZ fl3 fun h4 fl4 up4 => ?_
          have J4 : Inv X pins σ' H' { s' with heap := h4 } := J.landed nb fl4.1 ((up.trans up3).trans up4) os ag
          obtain ⟨oe4, vs4, he4, hz4, hd4⟩ := fl4.there
          have S4 := J4.suite he4 hd4 na nL nF
          refine store_ok (X := X.suite a ((a, oe4) :: (X.pn ++ pins))) (v := .ref a) S4 hN hi hloc rfl (fun s5 S5 => ?_) (.inr hln)
          refine wpAny_mono ((hsu a oe4 cls d (X.pn ++ pins) hz4 ⟨_, hd4⟩).run [] s5 _ H' _ S5 (hyes rfl a na)) (fun f s6 hsp => ?_) (fun _ _ z => False.elim z)
          have end_ : ∀ {σ6 : L2.St} {H6 : Hp} {Q : Shared → Prop}, Inv (X.suite a ((a, oe4) :: (X.pn ++ pins))) [] σ6 H6 s6 → (∀ s7, Inv X pins (σ6.set i none) H6 s7 → Q s7) →
              wpAny (model X.prog X.w) X.A (do bindName X.env n .none; unbindBehindTheSuite X.env n pos') (fun _ s7 => Q s7) X.xe s6 := fun {σ6 H6 Q} S6 hq => gone_ok (S6.unsuite ok) hN hi hln hq
          cases f with
          | next =>
            obtain ⟨σ6, H6, S6, q6⟩ := hsp
            exact end_ S6 fun s7 J7 => ⟨_, _, J7, q6⟩
          | brk =>
            obtain ⟨σ6, H6, S6, q6⟩ := hsp
            exact end_ S6 fun s7 J7 => ⟨_, _, J7, q6⟩
          | cont =>
            obtain ⟨σ6, H6, S6, q6⟩ := hsp
            exact end_ S6 fun s7 J7 => ⟨_, _, J7, q6⟩
          | ret u =>
            obtain ⟨v6, σ6, H6, S6, r6, q6⟩ := hsp
            exact end_ S6 fun s7 J7 => ⟨_, _, _, J7, r6, q6⟩
        | false =>
          show wpAny _ X.A (handleBy (.ref a) X.env hds2) _ _ _
          exact ih (hno rfl)
    exact go hh w'
  · cases f with
    | next =>
      obtain ⟨σ', H', J', q⟩ := hsp
      exact wpAny_execs_nil ⟨σ', H', J'.ofTry ok, q⟩
    | brk =>
      obtain ⟨σ', H', J', q⟩ := hsp
      exact ⟨σ', H', J'.ofTry ok, q⟩
    | cont =>
      obtain ⟨σ', H', J', q⟩ := hsp
      exact ⟨σ', H', J'.ofTry ok, q⟩
    | ret u =>
      obtain ⟨v, σ', H', J', r, q⟩ := hsp
      exact ⟨v, σ', H', J'.ofTry ok, r, q⟩
end
/-! ### steps -/
section
variable {K : PySem.W.Frag} {σ : L2.St} {H : Hp} {Q : VK} {D : Ends} {tb : WX → TS} {w : Ends → WX} {cls : Value} {d : Option Addr} {c : Value} {i : Nat} {ts : Addr → Value → Option Addr → TS} {Wr : WX}
theorem st_try (h : tb (w D) D σ H) : tTryA tb w D σ H := h
def gone (D : Ends) (i : Nat) : Ends := { nx := fun σ' H' => D.nx (σ'.set i none) H', rt := D.rt, bk := fun σ' H' => D.bk (σ'.set i none) H', ct := fun σ' H' => D.ct (σ'.set i none) H' }
theorem as_yes (e : PySem.W.exmOne K cls c = some true) (h : ∀ a, H a = none → ts a cls d (gone D i) (σ.set i (some (.ref a))) H) : wAs K c i ts Wr D cls d σ H := ⟨true, e, fun _ => h, fun z => by cases z⟩
theorem as_no (e : PySem.W.exmOne K cls c = some false) (h : Wr cls d σ H) : wAs K c i ts Wr D cls d σ H := ⟨false, e, (fun z => by cases z), fun _ => h⟩
end
/-! ### the exception that the suite holds -/
def ByP (K : PySem.W.Frag) (f : Str) (a : Addr) (cls : Value) (d : Option Addr) (x : V) (H : Hp) (Q : VK) : Prop := x = .ref a ∧ ∃ (C dd : Addr) (v : V), cls = .ref C ∧ ExcC K C ∧ PySem.W.findIn K (.ref C) f = some none ∧ d = some dd ∧ H dd = some (.xd [(f, v)]) ∧ Q v H
def tByX (K : PySem.W.Frag) (f : Str) (a : Addr) (cls : Value) (d : Option Addr) (te : TE) : TE := fun σ H Q => te σ H fun x H1 => ByP K f a cls d x H1 Q
inductive RIsEX (K : PySem.W.Frag) (a : Addr) (cls : Value) (d : Option Addr) : List V → Hp → VK → Prop
  | one {C dd c : Addr} {fs : List (Str × V)} {b : Bool} {H : Hp} {Q : VK} : cls = .ref C → ExcC K C → d = some dd → H dd = some (.xd fs) → PySem.W.kitOne K (.ref C) (.ref c) = some b → Q (.bl b) H → RIsEX K a cls d [.ref a, .ref c] H Q
  | tup {C dd p : Addr} {fs : List (Str × V)} {cs : List Addr} {b : Bool} {H : Hp} {Q : VK} : cls = .ref C → ExcC K C → d = some dd → H dd = some (.xd fs) → H p = some (.tup (cs.map V.ref)) → PySem.W.kitAny K (.ref C) (cs.map Value.ref) = some b → Q (.bl b) H → RIsEX K a cls d [.ref a, .ref p] H Q
theorem vals_refs : ∀ {cs : List Addr} {us : List Value}, Vals (cs.map V.ref) us → us = cs.map Value.ref
  | [], _, .nil => rfl
  | c :: cs, _, .cons r rs => by
    rw [show List.map Value.ref (c :: cs) = Value.ref c :: cs.map Value.ref from rfl, ← vals_refs rs]
    cases r
    rfl
section
variable {X : Cx} {a : Addr} {oe : Obj} {cls : Value} {d : Option Addr} {pn : List (Addr × Obj)} {e : Expr} {te : TE} {pos : Pos} {f : Str}
theorem pe_byX (hz : Zc cls d oe) (hf : ∃ vs, oe.data = .fields vs) (he : PE (X.suite a ((a, oe) :: pn)) e te) (hb : attributeBase e f X.env (eval e X.env) = eval e X.env := by rfl) :
    PE (X.suite a ((a, oe) :: pn)) (.Attribute e f pos) (tByX X.K f a cls d te) := by
  refine ⟨fun pins s σ H Q I h => ?_⟩
  refine attr_of hb (thn (he.run pins s σ H _ I h) fun u s1 hh => ?_)
  obtain ⟨x, H1, I1, rx, ex, C, dd, v, ec, T, no, ed, ea, q⟩ := hh
  subst ex
  obtain rfl : u = Value.ref a := rx
  subst ec
  subst ed
  obtain ⟨ha, _⟩ := I1.pin (a, oe) (List.mem_append_left _ List.mem_cons_self)
  obtain ⟨vs, hd⟩ := hf
  have hx : ObjOk X.prog X.w H1 s1.heap dd (.xd [(f, v)]) := I1.hok dd _ ea
  obtain ⟨mA, hns, hr⟩ := hx
  obtain ⟨od, ho, hl⟩ := lookIn_ns hns
  have l : List.lookup f [(f, v)] = some v := by simp [List.lookup]
  obtain ⟨u, hu, ru⟩ := RelO.some_of (v := v) (o := mA f) (by rw [← l]; exact hr f)
  have J : PySem.W.InstAt s1.heap a oe C (some od) := ⟨ha, hz.1, by unfold PySem.W.notCls; rw [hd] <;> rfl, by rw [hz.2]; exact ho⟩
  exact HandSPX.exc_get I1.kIn J T.hg T.hk T.hs (PySem.W.findObj_own T.hd no rfl (by rw [hl, hu])) (handed_of ru) ⟨v, H1, I1.tok _, ru, q⟩
theorem call_isEX (hz : Zc cls d oe) (hf : ∃ vs, oe.data = .fields vs) : CallR (X.suite a ((a, oe) :: pn)) (.builtin "isinstance") (RIsEX X.K a cls d) := by
  intro pins s σ H xs us Q I r h
  obtain ⟨hget, _⟩ := I.pin (a, oe) (List.mem_append.mpr (.inl List.mem_cons_self))
  obtain ⟨vs, hv⟩ := hf
  have inst : ∀ {C dd : Addr} {fs : List (Str × V)}, cls = .ref C → d = some dd → H dd = some (.xd fs) → ∃ od, PySem.W.InstAt s.heap a oe C (some od) := fun {C dd fs} ec ed ea => by
    subst ec
    subst ed
    have hx : ObjOk X.prog X.w H s.heap dd (.xd fs) := I.hok dd _ ea
    obtain ⟨mA, hns, hr⟩ := hx
    obtain ⟨od, ho, hl⟩ := lookIn_ns hns
    exact ⟨od, hget, hz.1, by unfold PySem.W.notCls; rw [hv] <;> rfl, by rw [hz.2]; exact ho⟩
  cases h with
  | @one C dd c fs b _ _ ec E ed ea k q =>
    obtain ⟨u1, u2, rfl, r1, r2⟩ := vals2 r
    obtain rfl : u1 = Value.ref a := r1
    obtain rfl : u2 = Value.ref c := r2
    obtain ⟨od, J⟩ := inst ec ed ea
    exact PySem.W.kia_one (kitx_X E) I.kIn J k (fun z => nomatch z) fun tk => ⟨.bl b, H, I.kept (t' := tk) fun _ _ z => z, rfl, q⟩
  | @tup C dd p fs cs b _ _ ec E ed ea ep k q =>
    obtain ⟨u1, u2, rfl, r1, r2⟩ := vals2 r
    obtain rfl : u1 = Value.ref a := r1
    obtain rfl : u2 = Value.ref p := r2
    obtain ⟨od, J⟩ := inst ec ed ea
    obtain ⟨_, its, rv, o, h1, h2, n, h3⟩ := (show ObjOk X.prog X.w H s.heap p (.tup (cs.map V.ref)) from I.hok p _ ep)
    have e3 := vals_refs rv
    subst e3
    obtain ⟨oc, od2, dt, sl⟩ := o
    simp only at h2 h3
    subst h2 h3
    exact PySem.W.kia_tup (kitx_X E) I.kIn J h1 k (fun z => nomatch z) fun tk => ⟨.bl b, H, I.kept (t' := tk) fun _ _ z => z, rfl, q⟩
end
section
variable {K : PySem.W.Frag} {σ : L2.St} {H : Hp} {Q : VK} {te : TE} {f : Str} {a : Addr} {cls : Value} {d : Option Addr}
theorem se_by (h : te σ H fun x H1 => ByP K f a cls d x H1 Q) : tByX K f a cls d te σ H Q := h
theorem by_mk {C dd : Addr} {v : V} (E : ExcC K C) (no : PySem.W.findIn K (.ref C) f = some none) (ea : H dd = some (.xd [(f, v)])) (q : Q v H) : ByP K f a (.ref C) (some dd) (.ref a) H Q := ⟨rfl, C, dd, v, rfl, E, no, rfl, ea, q⟩
end
/-! ### facts -/
def exmB (x c : Str) (b : Bool) (K : PySem.W.Frag) : Bool := eqB (PySem.W.exmOne K (.ref (He.ga K x)) (.ref (He.ga K c))) (some b)
theorem kitAny_go {K : PySem.W.Frag} {t c : Value} {r : List Value} {b d : Bool} (h : PySem.W.kitOne K t c = some b) (hr : PySem.W.kitAny K t r = some d) : PySem.W.kitAny K t (c :: r) = some (b || d) := by
  cases b with
  | true => exact kitAny_cons h (fun e => by cases e) (fun _ => rfl)
  | false => exact kitAny_cons h (fun _ => hr) (fun e => by cases e)
end Wk

set_option maxRecDepth 100000
set_option maxHeartbeats 4000000
/-! Walks over pairs (zip, enumerate), over tuples; more steps. -/
namespace Wk
open PySem PySem.Spec PyProof.Rows L2
section
variable {K : PySem.W.Frag} {σ : L2.St} {H : Hp} {ta tl : TA} {te : TE} {R : It → Hp → Prop} {a b : Addr} {xs ys : List V}
theorem it_zip (h : ta σ H fun vs H1 => ∃ a b xs ys, vs = [.ref a, .ref b] ∧ SqL K H1 a xs ∧ SqL K H1 b ys ∧ R (Itz K a b) H1) : iZip K ta σ H R := h
theorem zip_mk {P : Addr → Addr → Prop} (h1 : H a = some (.lst xs)) (h2 : H b = some (.lst ys)) (q : P a b) : ∃ a' b' xs ys, [V.ref a, V.ref b] = [.ref a', .ref b'] ∧ SqL K H a' xs ∧ SqL K H b' ys ∧ P a' b' := ⟨a, b, xs, ys, rfl, SqL.of h1, SqL.of h2, q⟩
theorem it_enum (h : ta σ H fun vs H1 => ∃ a xs, vs = [.ref a] ∧ SqL K H1 a xs ∧ R (Ite K a) H1) : iEnum K ta σ H R := h
theorem enum_mk {P : Addr → Prop} (h1 : H a = some (.lst xs)) (q : P a) : ∃ a' xs, [V.ref a] = [.ref a'] ∧ SqL K H a' xs ∧ P a' := ⟨a, xs, rfl, SqL.of h1, q⟩
theorem rne_same {z : Str} {Q : VK} (q : Q (.bl false) H) : REq true (.str z) (.str z) H Q := rne_str (by rw [decide_eq_true rfl]; exact q)
theorem req_same {z : Str} {Q : VK} (q : Q (.bl true) H) : REq false (.str z) (.str z) H Q := req_str (by rw [decide_eq_true rfl]; exact q)
theorem rne_bl {a b : Bool} {Q : VK} (q : Q (.bl (!decide (a = b))) H) : REq true (.bl a) (.bl b) H Q := .scal rfl (by
  have e : decide (V.bl a = V.bl b) = decide (a = b) := by simp
  rw [← e] at q
  exact q)
theorem req_bl {a b : Bool} {Q : VK} (q : Q (.bl (decide (a = b))) H) : REq false (.bl a) (.bl b) H Q := .scal rfl (by
  have e : decide (V.bl a = V.bl b) = decide (a = b) := by simp
  rw [← e] at q
  exact q)
theorem rne_bsame {a : Bool} {Q : VK} (q : Q (.bl false) H) : REq true (.bl a) (.bl a) H Q := rne_bl (by rw [decide_eq_true rfl]; exact q)
theorem it_tup (h : te σ H fun x H1 => ∃ a, x = .ref a ∧ (∃ xs, SqT K H1 a xs) ∧ R (Itt K a) H1) : iTup K te σ H R := h
theorem tupI_mk {P : Addr → Prop} (h : H a = some (.tup xs)) (q : P a) : ∃ b, V.ref a = .ref b ∧ (∃ xs, SqT K H b xs) ∧ P b := ⟨a, rfl, ⟨xs, SqT.of h⟩, q⟩
def tagV : V → Nat
  | .non => 0
  | .bl false => 1
  | .bl true => 2
  | .int _ => 3
  | .str _ => 4
  | .byt _ => 5
  | .flt _ => 6
  | .ref _ => 7
  | .ty _ => 8
theorem if_tagF {x y : V} {A B : Prop} (e : (tagV x == tagV y) = false) (h : B) : if decide (x = y) = true then A else B := by
  rw [if_neg (by
    intro q
    rw [of_decide_eq_true q] at e
    simp at e)]
  exact h
theorem if_tagN {x y : V} {A B : Prop} (e : (tagV x == tagV y) = false) (h : A) : if (!decide (x = y)) = true then A else B := by
  have : decide (x = y) = false := decide_eq_false fun q => by
    rw [q] at e
    simp at e
  rw [this]
  exact h
theorem if_kT {k : Knd} {n : String} {A B : Prop} (e : k.is n = true) (h : A) : if k.is n = true then A else B := by rw [if_pos e]; exact h
theorem if_kF {k : Knd} {n : String} {A B : Prop} (e : k.is n = false) (h : B) : if k.is n = true then A else B := by rw [if_neg (by rw [e]; decide)]; exact h
theorem if_nkT {k : Knd} {n : String} {A B : Prop} (e : k.is n = true) (h : B) : if (!k.is n) = true then A else B := by rw [e]; exact h
theorem if_nkF {k : Knd} {n : String} {A B : Prop} (e : k.is n = false) (h : A) : if (!k.is n) = true then A else B := by rw [e]; exact h
theorem if_notT {A B : Prop} (h : B) : if (!true) = true then A else B := h
theorem if_notF {A B : Prop} (h : A) : if (!false) = true then A else B := h
end
section
variable {J : It} {n : Nat} {G : Hp → Prop} {Y : Nat → Hp → V → Hp → Prop} {g : TG} {tb : TS} {D : Ends} {σ : L2.St} {H D0 : Hp} {R0 : Cells} {tt : TT} {te : TE} {vs : List Nat} {Q : VK} {K : PySem.W.Frag} {a b : Addr} {xs ys : List V}
theorem for_zip (I : Nat → L2.St → Cells → Hp → Prop) (hn : n = min xs.length ys.length) (hi : HI H R0 D0) (h0 : I 0 σ R0 D0) (hl : ∀ i σ R Dd, I i σ R Dd → Dd a = some (.lst xs) ∧ Dd b = some (.lst ys))
    (hs : ∀ (i : Nat) x y T σ R Dd Dd' H, xs[i]? = some x → ys[i]? = some y → HI H R Dd' → Ex Dd Dd' → Dd' T = some (.tup [x, y]) → I i σ R Dd → g (.ref T) σ H fun σ2 H2 => tb { D with nx := NX I (i + 1), ct := NX I (i + 1), bk := D.nx } σ2 H2)
    (hd : ∀ σ R Dd H, HI H R Dd → I n σ R Dd → D.nx σ H) : ForK (Itz K a b) g tb D σ H :=
  for_hi (walk_zip hn) I hi h0 (fun i σ R Dd H _ q p => ⟨SqL.of (q.dat (hl i σ R Dd p).1), SqL.of (q.dat (hl i σ R Dd p).2)⟩) (fun i v σ R Dd H H' hn1 hi1 b y => by
    obtain ⟨T, x, z, rfl, hT, rfl, e1, e2⟩ := y
    exact hs i x z T σ R Dd _ _ e1 e2 (hi1.newD hT) (Ex.new (hi1.free hT)) upd_same b) hd
theorem for_enum (I : Nat → L2.St → Cells → Hp → Prop) (hi : HI H R0 D0) (h0 : I 0 σ R0 D0) (hl : ∀ i σ R Dd, I i σ R Dd → Dd a = some (.lst xs))
    (hs : ∀ (i : Nat) x T σ R Dd Dd' H, xs[i]? = some x → HI H R Dd' → Ex Dd Dd' → Dd' T = some (.tup [.int i, x]) → I i σ R Dd → g (.ref T) σ H fun σ2 H2 => tb { D with nx := NX I (i + 1), ct := NX I (i + 1), bk := D.nx } σ2 H2)
    (hd : ∀ σ R Dd H, HI H R Dd → I xs.length σ R Dd → D.nx σ H) : ForK (Ite K a) g tb D σ H :=
  for_hi walk_enum I hi h0 (fun i σ R Dd H _ q p => SqL.of (q.dat (hl i σ R Dd p))) (fun i v σ R Dd H H' hn1 hi1 b y => by
    obtain ⟨T, x, z, rfl, hT, rfl, e1, e2⟩ := y
    cases e1
    exact hs i z T σ R Dd _ _ e2 (hi1.newD hT) (Ex.new (hi1.free hT)) upd_same b) hd
theorem for_tup (I : Nat → L2.St → Cells → Hp → Prop) (hi : HI H R0 D0) (h0 : I 0 σ R0 D0) (hl : ∀ i σ R Dd, I i σ R Dd → Dd a = some (.tup xs))
    (hs : ∀ (i : Nat) x σ R Dd H, xs[i]? = some x → HI H R Dd → I i σ R Dd → g x σ H fun σ2 H2 => tb { D with nx := NX I (i + 1), ct := NX I (i + 1), bk := D.nx } σ2 H2) (hd : ∀ σ R Dd H, HI H R Dd → I xs.length σ R Dd → D.nx σ H) : ForK (Itt K a) g tb D σ H :=
  for_hi walk_tup I hi h0 (fun i σ R Dd H _ q p => SqT.of (q.dat (hl i σ R Dd p))) (fun i x σ R Dd H H' hn a b y => by
    obtain ⟨rfl, y⟩ := y
    exact hs i x σ R Dd H' y a b) hd
theorem lc_zip (I : Nat → List V → Cells → Hp → Prop) (hn : n = min xs.length ys.length) (hi : HI H R0 D0) (h0 : I 0 [] R0 D0) (hl : ∀ i acc R Dd, I i acc R Dd → Dd a = some (.lst xs) ∧ Dd b = some (.lst ys))
    (hs : ∀ L i acc x y T R Dd Dd' H, xs[i]? = some x → ys[i]? = some y → HI H ((L, .lst acc) :: R) Dd' → Ex Dd Dd' → Dd' T = some (.tup [x, y]) → I i acc R Dd → acc.length ≤ i → g (.ref T) (wipe σ vs) H fun σ2 H2 => wipe σ2 vs = wipe σ vs ∧ tt σ2 H2 fun b H3 => if b = true then te σ2 H3 (LE L I (i + 1)) else PW' L I (i + 1) H3)
    (hd : ∀ L acc R Dd H, HI H ((L, .lst acc) :: R) Dd → I n acc R Dd → acc.length ≤ n → Q (.ref L) H) : LcK (Itz K a b) g tt te vs σ H Q :=
  lc_hi (walk_zip hn) I hi h0 (fun i acc R Dd H _ q p => ⟨SqL.of (q.dat (hl i acc R Dd p).1), SqL.of (q.dat (hl i acc R Dd p).2)⟩) (fun L i acc v R Dd H H' hn1 hi1 b c y => by
    obtain ⟨T, x, z, rfl, hT, rfl, e1, e2⟩ := y
    exact hs L i acc x z T R Dd _ _ e1 e2 (hi1.newD hT) (Ex.new (hi1.free hT)) upd_same b c) hd
theorem lc_enum (I : Nat → List V → Cells → Hp → Prop) (hi : HI H R0 D0) (h0 : I 0 [] R0 D0) (hl : ∀ i acc R Dd, I i acc R Dd → Dd a = some (.lst xs))
    (hs : ∀ L i acc x T R Dd Dd' H, xs[i]? = some x → HI H ((L, .lst acc) :: R) Dd' → Ex Dd Dd' → Dd' T = some (.tup [.int (i : Nat), x]) → I i acc R Dd → acc.length ≤ i → g (.ref T) (wipe σ vs) H fun σ2 H2 => wipe σ2 vs = wipe σ vs ∧ tt σ2 H2 fun b H3 => if b = true then te σ2 H3 (LE L I (i + 1)) else PW' L I (i + 1) H3)
    (hd : ∀ L acc R Dd H, HI H ((L, .lst acc) :: R) Dd → I xs.length acc R Dd → acc.length ≤ xs.length → Q (.ref L) H) : LcK (Ite K a) g tt te vs σ H Q :=
  lc_hi walk_enum I hi h0 (fun i acc R Dd H _ q p => SqL.of (q.dat (hl i acc R Dd p))) (fun L i acc v R Dd H H' hn1 hi1 b c y => by
    obtain ⟨T, x, z, rfl, hT, rfl, e1, e2⟩ := y
    cases e1
    exact hs L i acc z T R Dd _ _ e2 (hi1.newD hT) (Ex.new (hi1.free hT)) upd_same b c) hd
theorem lc_tup (I : Nat → List V → Cells → Hp → Prop) (hi : HI H R0 D0) (h0 : I 0 [] R0 D0) (hl : ∀ i acc R Dd, I i acc R Dd → Dd a = some (.tup xs))
    (hs : ∀ L i acc x R Dd H, xs[i]? = some x → HI H ((L, .lst acc) :: R) Dd → I i acc R Dd → acc.length ≤ i → g x (wipe σ vs) H fun σ2 H2 => wipe σ2 vs = wipe σ vs ∧ tt σ2 H2 fun b H3 => if b = true then te σ2 H3 (LE L I (i + 1)) else PW' L I (i + 1) H3)
    (hd : ∀ L acc R Dd H, HI H ((L, .lst acc) :: R) Dd → I xs.length acc R Dd → acc.length ≤ xs.length → Q (.ref L) H) : LcK (Itt K a) g tt te vs σ H Q :=
  lc_hi walk_tup I hi h0 (fun i acc R Dd H _ q p => SqT.of (q.dat (hl i acc R Dd p))) (fun L i acc x R Dd H H' hn a b c y => by
    obtain ⟨rfl, y⟩ := y
    exact hs L i acc x R Dd H' y a b c) hd
end
theorem atI_mapI {α β : Type} {f : α → β} {xs : List α} {i : Int} {x : α} (h0 : 0 ≤ i) (h : xs[i.toNat]? = some x) : atI (xs.map f) i = some (f x) := by
  rw [atI_ofI h0, List.getElem?_map, h]
  rfl
theorem atI_last {α : Type} {xs : List α} {x : α} : atI (xs ++ [x]) (-1) = some x := by
  unfold atI ixN
  rw [if_neg (by decide), if_pos (by rw [List.length_append, List.length_singleton]; omega)]
  have e : ((-1 : Int) + ((xs ++ [x]).length : Int)).toNat = xs.length := by rw [List.length_append, List.length_singleton]; omega
  rw [Option.bind_some, e]
  simp
theorem atI_lastM {α β : Type} {f : α → β} {xs : List α} {x : α} : atI ((xs ++ [x]).map f) (-1) = some (f x) := by
  rw [List.map_append]
  exact atI_last
theorem get_snoc {α : Type} {xs : List α} {y : α} {i : Nat} {x : α} (h : xs[i]? = some x) : (xs ++ [y])[i]? = some x := by
  rw [List.getElem?_append_left (List.getElem?_eq_some_iff.mp h).1]
  exact h
theorem HI.sublist {H D : Hp} {R R' : Cells} (h : HI H R D) (s : R'.Sublist R) : HI H R' D := ⟨(s.map _).nodup h.nd, fun p hp => h.cell p (s.subset hp), h.sub⟩
theorem HI.fr1 {H D : Hp} {R : Cells} {a : Addr} {o : HO} (h : HI H ((a, o) :: R) D) : ∃ D', HI H R D' ∧ Ex D D' ∧ D' a = some o := ⟨_, h.freeze, h.freezeX, upd_same⟩
theorem HI.fr2 {H D : Hp} {R : Cells} {a b : Addr} {o u : HO} (h : HI H ((a, o) :: (b, u) :: R) D) : ∃ D', HI H R D' ∧ Ex D D' ∧ D' a = some o ∧ D' b = some u := ⟨_, h.freeze.freeze, h.freezeX.trans h.freeze.freezeX, h.freeze.freezeX _ _ upd_same, upd_same⟩
end Wk

set_option maxRecDepth 100000
set_option maxHeartbeats 4000000
namespace Wk
open PySem PySem.Spec PyProof.Rows L2
/-! ### the text by places -/
def top (i : Nat) : Stmt := PySem.Challenge.pw_weekheads_k03_words_and_figures.main.body.getD i (.Pass ⟨0, 0, 0, 0⟩)
abbrev s_NoName_init : Stmt := inClass (top 3) 0
abbrev s_NoNumber_init : Stmt := inClass (top 4) 0
abbrev s_is_whole : Stmt := top 6
abbrev s_two_figures : Stmt := top 7
abbrev s_words_of : Stmt := top 8
abbrev s_l_cell : Stmt := top 10
abbrev s_l_box : Stmt := top 11
abbrev s_l_take : Stmt := top 12
abbrev s_l_text : Stmt := top 13
abbrev s_l_words : Stmt := top 14
abbrev s_l_words_right : Stmt := top 15
abbrev s_l_figures : Stmt := top 16
abbrev s_l_figures_right : Stmt := top 17
abbrev s_law : Stmt := top 18
def d_NoName_init : He.DefD := ⟨("NoName", some "__init__"), "__init__", "NoName.__init__", defArgs s_NoName_init, defBody s_NoName_init, defScope s_NoName_init, [], []⟩
def d_NoNumber_init : He.DefD := ⟨("NoNumber", some "__init__"), "__init__", "NoNumber.__init__", defArgs s_NoNumber_init, defBody s_NoNumber_init, defScope s_NoNumber_init, [], []⟩
def d_is_whole : He.DefD := ⟨("is_whole", none), "is_whole", "is_whole", defArgs s_is_whole, defBody s_is_whole, defScope s_is_whole, [], []⟩
def d_two_figures : He.DefD := ⟨("two_figures", none), "two_figures", "two_figures", defArgs s_two_figures, defBody s_two_figures, defScope s_two_figures, [], []⟩
def d_words_of : He.DefD := ⟨("words_of", none), "words_of", "words_of", defArgs s_words_of, defBody s_words_of, defScope s_words_of, [], []⟩
def d_l_cell : He.DefD := ⟨("_law_cell", none), "_law_cell", "_law_cell", defArgs s_l_cell, defBody s_l_cell, defScope s_l_cell, [], []⟩
def d_l_box : He.DefD := ⟨("_law_box", none), "_law_box", "_law_box", defArgs s_l_box, defBody s_l_box, defScope s_l_box, [], []⟩
def d_l_take : He.DefD := ⟨("_law_take", none), "_law_take", "_law_take", defArgs s_l_take, defBody s_l_take, defScope s_l_take, [], []⟩
def d_l_text : He.DefD := ⟨("_law_text", none), "_law_text", "_law_text", defArgs s_l_text, defBody s_l_text, defScope s_l_text, [], []⟩
def d_l_words : He.DefD := ⟨("_law_words", none), "_law_words", "_law_words", defArgs s_l_words, defBody s_l_words, defScope s_l_words, [], []⟩
def d_l_words_right : He.DefD := ⟨("_law_words_right", none), "_law_words_right", "_law_words_right", defArgs s_l_words_right, defBody s_l_words_right, defScope s_l_words_right, [], []⟩
def d_l_figures : He.DefD := ⟨("_law_figures", none), "_law_figures", "_law_figures", defArgs s_l_figures, defBody s_l_figures, defScope s_l_figures, [], []⟩
def d_l_figures_right : He.DefD := ⟨("_law_figures_right", none), "_law_figures_right", "_law_figures_right", defArgs s_l_figures_right, defBody s_l_figures_right, defScope s_l_figures_right, [], []⟩
def d_law : He.DefD := ⟨("law", none), "law", "law", defArgs s_law, defBody s_law, defScope s_law, [], []⟩
def fn : List He.DefD := [d_NoName_init, d_NoNumber_init, d_is_whole, d_two_figures, d_words_of, d_l_cell, d_l_box, d_l_take, d_l_text, d_l_words, d_l_words_right, d_l_figures, d_l_figures_right, d_law]
def cs : List Str := ["WeekError", "MissError", "NoName", "NoNumber"]
def fx0 : List WA.Fx := [fun K => (He.Fa.glo "is_whole").ok K, fun K => (He.Fa.glo "two_figures").ok K, fun K => (He.Fa.glo "words_of").ok K, fun K => (He.Fa.glo "_law_cell").ok K, fun K => (He.Fa.glo "_law_box").ok K, fun K => (He.Fa.glo "_law_take").ok K, fun K => (He.Fa.glo "_law_text").ok K, fun K => (He.Fa.glo "_law_words").ok K, fun K => (He.Fa.glo "_law_words_right").ok K, fun K => (He.Fa.glo "_law_figures").ok K, fun K => (He.Fa.glo "_law_figures_right").ok K, fun K => (He.Fa.glo "law").ok K, fun K => (He.Fa.free "len").ok K, fun K => (He.Fa.free "isinstance").ok K, fun K => (He.Fa.free "repr").ok K, fun K => (He.Fa.free "range").ok K, fun K => (He.Fa.free "max").ok K, fun K => (He.Fa.free "min").ok K, fun K => (He.Fa.free "int").ok K, fun K => (He.Fa.free "str").ok K, fun K => (He.Fa.free "list").ok K, fun K => (He.Fa.free "bool").ok K, fun K => (He.Fa.free "ValueError").ok K, fun K => (He.Fa.free "LookupError").ok K, fun K => (He.Fa.glo "WeekError").ok K, Wk.sixB "WeekError", Wk.exbB "WeekError", fun K => (He.Fa.glo "MissError").ok K, Wk.sixB "MissError", fun K => (He.Fa.glo "NoName").ok K, Wk.sixB "NoName", Wk.exkB "NoName", fun K => (He.Fa.glo "NoNumber").ok K, Wk.sixB "NoNumber", Wk.exkB "NoNumber", Wk.kbB "WeekError", Wk.kiB "WeekError" "WeekError" true, Wk.kiB "MissError" "WeekError" false, Wk.kiB "NoName" "WeekError" true, Wk.kiB "NoNumber" "WeekError" true]
def fx1 : List WA.Fx := [Wk.kbB "MissError", Wk.kiB "WeekError" "MissError" false, Wk.kiB "MissError" "MissError" true, Wk.kiB "NoName" "MissError" false, Wk.kiB "NoNumber" "MissError" false, Wk.kbB "NoName", Wk.kiB "WeekError" "NoName" false, Wk.kiB "MissError" "NoName" false, Wk.kiB "NoName" "NoName" true, Wk.kiB "NoNumber" "NoName" false, Wk.exmB "NoName" "NoNumber" false, Wk.exmB "NoNumber" "NoNumber" true, Wk.noList, fun K => (K.lookup sysModules).isSome]
def fx : List WA.Fx := fx0 ++ fx1
abbrev a_NoName_init (K : PySem.W.Frag) : Addr := He.fAd K ("NoName", some "__init__")
abbrev a_NoNumber_init (K : PySem.W.Frag) : Addr := He.fAd K ("NoNumber", some "__init__")
abbrev a_is_whole (K : PySem.W.Frag) : Addr := He.fAd K ("is_whole", none)
abbrev a_two_figures (K : PySem.W.Frag) : Addr := He.fAd K ("two_figures", none)
abbrev a_words_of (K : PySem.W.Frag) : Addr := He.fAd K ("words_of", none)
abbrev a_l_cell (K : PySem.W.Frag) : Addr := He.fAd K ("_law_cell", none)
abbrev a_l_box (K : PySem.W.Frag) : Addr := He.fAd K ("_law_box", none)
abbrev a_l_take (K : PySem.W.Frag) : Addr := He.fAd K ("_law_take", none)
abbrev a_l_text (K : PySem.W.Frag) : Addr := He.fAd K ("_law_text", none)
abbrev a_l_words (K : PySem.W.Frag) : Addr := He.fAd K ("_law_words", none)
abbrev a_l_words_right (K : PySem.W.Frag) : Addr := He.fAd K ("_law_words_right", none)
abbrev a_l_figures (K : PySem.W.Frag) : Addr := He.fAd K ("_law_figures", none)
abbrev a_l_figures_right (K : PySem.W.Frag) : Addr := He.fAd K ("_law_figures_right", none)
abbrev a_law (K : PySem.W.Frag) : Addr := He.fAd K ("law", none)
structure Tx (K : PySem.W.Frag) (mg : Str → Option Value) : Prop where
  c : WA.SaysX fx fn K
  h : ∃ h : Heap, K.In h ∧ h.Ns mainGlobals mg
section
variable {K : PySem.W.Frag} {mg : Str → Option Value}
theorem Tx.glo (T : Tx K mg) {x : Str} (i : Nat) (h : fx[i]? = some (fun K => (He.Fa.glo x).ok K) := by rfl) : mg x = some (.ref (He.ga K x)) := let ⟨_, X, G⟩ := T.h; He.glo_ok X G (T.c.fact i h)
theorem Tx.free (T : Tx K mg) {x : Str} (i : Nat) (h : fx[i]? = some (fun K => (He.Fa.free x).ok K) := by rfl) : mg x = none := let ⟨_, X, G⟩ := T.h; He.free_ok X G (T.c.fact i h)
theorem Tx.int (T : Tx K mg) {x : Str} {z : Int} (i : Nat) (h : fx[i]? = some (fun K => (He.Fa.int x z).ok K) := by rfl) : ∃ t, mg x = some (.int z t) := let ⟨_, X, G⟩ := T.h; He.int_ok X G (T.c.fact i h)
theorem Tx.str (T : Tx K mg) {x z : Str} (i : Nat) (h : fx[i]? = some (fun K => (He.Fa.str x z).ok K) := by rfl) : ∃ t, mg x = some (.str z t) := let ⟨_, X, G⟩ := T.h; He.str_ok X G (T.c.fact i h)
theorem Tx.g_is_whole (T : Tx K mg) : mg "is_whole" = some (.ref (a_is_whole K)) := T.glo (x := "is_whole") 0
theorem Tx.g_two_figures (T : Tx K mg) : mg "two_figures" = some (.ref (a_two_figures K)) := T.glo (x := "two_figures") 1
theorem Tx.g_words_of (T : Tx K mg) : mg "words_of" = some (.ref (a_words_of K)) := T.glo (x := "words_of") 2
theorem Tx.g_l_cell (T : Tx K mg) : mg "_law_cell" = some (.ref (a_l_cell K)) := T.glo (x := "_law_cell") 3
theorem Tx.g_l_box (T : Tx K mg) : mg "_law_box" = some (.ref (a_l_box K)) := T.glo (x := "_law_box") 4
theorem Tx.g_l_take (T : Tx K mg) : mg "_law_take" = some (.ref (a_l_take K)) := T.glo (x := "_law_take") 5
theorem Tx.g_l_text (T : Tx K mg) : mg "_law_text" = some (.ref (a_l_text K)) := T.glo (x := "_law_text") 6
theorem Tx.g_l_words (T : Tx K mg) : mg "_law_words" = some (.ref (a_l_words K)) := T.glo (x := "_law_words") 7
theorem Tx.g_l_words_right (T : Tx K mg) : mg "_law_words_right" = some (.ref (a_l_words_right K)) := T.glo (x := "_law_words_right") 8
theorem Tx.g_l_figures (T : Tx K mg) : mg "_law_figures" = some (.ref (a_l_figures K)) := T.glo (x := "_law_figures") 9
theorem Tx.g_l_figures_right (T : Tx K mg) : mg "_law_figures_right" = some (.ref (a_l_figures_right K)) := T.glo (x := "_law_figures_right") 10
theorem Tx.g_law (T : Tx K mg) : mg "law" = some (.ref (a_law K)) := T.glo (x := "law") 11
theorem Tx.n_len (T : Tx K mg) : mg "len" = none := T.free (x := "len") 12
theorem Tx.n_isinstance (T : Tx K mg) : mg "isinstance" = none := T.free (x := "isinstance") 13
theorem Tx.n_repr (T : Tx K mg) : mg "repr" = none := T.free (x := "repr") 14
theorem Tx.n_range (T : Tx K mg) : mg "range" = none := T.free (x := "range") 15
theorem Tx.n_max (T : Tx K mg) : mg "max" = none := T.free (x := "max") 16
theorem Tx.n_min (T : Tx K mg) : mg "min" = none := T.free (x := "min") 17
theorem Tx.n_int (T : Tx K mg) : mg "int" = none := T.free (x := "int") 18
theorem Tx.n_str (T : Tx K mg) : mg "str" = none := T.free (x := "str") 19
theorem Tx.n_list (T : Tx K mg) : mg "list" = none := T.free (x := "list") 20
theorem Tx.n_bool (T : Tx K mg) : mg "bool" = none := T.free (x := "bool") 21
theorem Tx.n_ValueError (T : Tx K mg) : mg "ValueError" = none := T.free (x := "ValueError") 22
theorem Tx.n_LookupError (T : Tx K mg) : mg "LookupError" = none := T.free (x := "LookupError") 23
theorem Tx.g_WeekError (T : Tx K mg) : mg "WeekError" = some (.ref (He.ga K "WeekError")) := T.glo (x := "WeekError") 24
theorem Tx.six_WeekError (T : Tx K mg) : Six K (He.ga K "WeekError") := six_ok (T.c.fact 25)
theorem Tx.y_WeekError (T : Tx K mg) : ExB K mg "WeekError" (He.ga K "WeekError") := let ⟨_, X, G⟩ := T.h; exb_ok X G (T.c.fact 24 (f := fun K => (He.Fa.glo "WeekError").ok K)) (T.c.fact 26)
theorem Tx.g_MissError (T : Tx K mg) : mg "MissError" = some (.ref (He.ga K "MissError")) := T.glo (x := "MissError") 27
theorem Tx.six_MissError (T : Tx K mg) : Six K (He.ga K "MissError") := six_ok (T.c.fact 28)
theorem Tx.g_NoName (T : Tx K mg) : mg "NoName" = some (.ref (He.ga K "NoName")) := T.glo (x := "NoName") 29
theorem Tx.six_NoName (T : Tx K mg) : Six K (He.ga K "NoName") := six_ok (T.c.fact 30)
theorem Tx.x_NoName (T : Tx K mg) : ExK K mg "NoName" (He.ga K "NoName") (a_NoName_init K) := let ⟨_, X, G⟩ := T.h; exk_ok X G (T.c.fact 29 (f := fun K => (He.Fa.glo "NoName").ok K)) (T.c.fact 31)
theorem Tx.g_NoNumber (T : Tx K mg) : mg "NoNumber" = some (.ref (He.ga K "NoNumber")) := T.glo (x := "NoNumber") 32
theorem Tx.six_NoNumber (T : Tx K mg) : Six K (He.ga K "NoNumber") := six_ok (T.c.fact 33)
theorem Tx.x_NoNumber (T : Tx K mg) : ExK K mg "NoNumber" (He.ga K "NoNumber") (a_NoNumber_init K) := let ⟨_, X, G⟩ := T.h; exk_ok X G (T.c.fact 32 (f := fun K => (He.Fa.glo "NoNumber").ok K)) (T.c.fact 34)
theorem Tx.kb_WeekError (T : Tx K mg) {n : String} (h : n ∈ seven) : PySem.W.kitOne K (.type n) (.ref (He.ga K "WeekError")) = some false := of_decide_eq_true (List.all_eq_true.mp (T.c.fact 35 (f := Wk.kbB "WeekError")) n h)
theorem Tx.ki_WeekError_WeekError (T : Tx K mg) : PySem.W.kitOne K (.ref (He.ga K "WeekError")) (.ref (He.ga K "WeekError")) = some true := of_decide_eq_true (T.c.fact 36 (f := Wk.kiB "WeekError" "WeekError" true))
theorem Tx.ki_MissError_WeekError (T : Tx K mg) : PySem.W.kitOne K (.ref (He.ga K "MissError")) (.ref (He.ga K "WeekError")) = some false := of_decide_eq_true (T.c.fact 37 (f := Wk.kiB "MissError" "WeekError" false))
theorem Tx.ki_NoName_WeekError (T : Tx K mg) : PySem.W.kitOne K (.ref (He.ga K "NoName")) (.ref (He.ga K "WeekError")) = some true := of_decide_eq_true (T.c.fact 38 (f := Wk.kiB "NoName" "WeekError" true))
theorem Tx.ki_NoNumber_WeekError (T : Tx K mg) : PySem.W.kitOne K (.ref (He.ga K "NoNumber")) (.ref (He.ga K "WeekError")) = some true := of_decide_eq_true (T.c.fact 39 (f := Wk.kiB "NoNumber" "WeekError" true))
theorem Tx.kb_MissError (T : Tx K mg) {n : String} (h : n ∈ seven) : PySem.W.kitOne K (.type n) (.ref (He.ga K "MissError")) = some false := of_decide_eq_true (List.all_eq_true.mp (T.c.fact 40 (f := Wk.kbB "MissError")) n h)
theorem Tx.ki_WeekError_MissError (T : Tx K mg) : PySem.W.kitOne K (.ref (He.ga K "WeekError")) (.ref (He.ga K "MissError")) = some false := of_decide_eq_true (T.c.fact 41 (f := Wk.kiB "WeekError" "MissError" false))
theorem Tx.ki_MissError_MissError (T : Tx K mg) : PySem.W.kitOne K (.ref (He.ga K "MissError")) (.ref (He.ga K "MissError")) = some true := of_decide_eq_true (T.c.fact 42 (f := Wk.kiB "MissError" "MissError" true))
theorem Tx.ki_NoName_MissError (T : Tx K mg) : PySem.W.kitOne K (.ref (He.ga K "NoName")) (.ref (He.ga K "MissError")) = some false := of_decide_eq_true (T.c.fact 43 (f := Wk.kiB "NoName" "MissError" false))
theorem Tx.ki_NoNumber_MissError (T : Tx K mg) : PySem.W.kitOne K (.ref (He.ga K "NoNumber")) (.ref (He.ga K "MissError")) = some false := of_decide_eq_true (T.c.fact 44 (f := Wk.kiB "NoNumber" "MissError" false))
theorem Tx.kb_NoName (T : Tx K mg) {n : String} (h : n ∈ seven) : PySem.W.kitOne K (.type n) (.ref (He.ga K "NoName")) = some false := of_decide_eq_true (List.all_eq_true.mp (T.c.fact 45 (f := Wk.kbB "NoName")) n h)
theorem Tx.ki_WeekError_NoName (T : Tx K mg) : PySem.W.kitOne K (.ref (He.ga K "WeekError")) (.ref (He.ga K "NoName")) = some false := of_decide_eq_true (T.c.fact 46 (f := Wk.kiB "WeekError" "NoName" false))
theorem Tx.ki_MissError_NoName (T : Tx K mg) : PySem.W.kitOne K (.ref (He.ga K "MissError")) (.ref (He.ga K "NoName")) = some false := of_decide_eq_true (T.c.fact 47 (f := Wk.kiB "MissError" "NoName" false))
theorem Tx.ki_NoName_NoName (T : Tx K mg) : PySem.W.kitOne K (.ref (He.ga K "NoName")) (.ref (He.ga K "NoName")) = some true := of_decide_eq_true (T.c.fact 48 (f := Wk.kiB "NoName" "NoName" true))
theorem Tx.ki_NoNumber_NoName (T : Tx K mg) : PySem.W.kitOne K (.ref (He.ga K "NoNumber")) (.ref (He.ga K "NoName")) = some false := of_decide_eq_true (T.c.fact 49 (f := Wk.kiB "NoNumber" "NoName" false))
theorem Tx.ex_NoName_NoNumber (T : Tx K mg) : PySem.W.exmOne K (.ref (He.ga K "NoName")) (.ref (He.ga K "NoNumber")) = some false := of_decide_eq_true (T.c.fact 50 (f := Wk.exmB "NoName" "NoNumber" false))
theorem Tx.ex_NoNumber_NoNumber (T : Tx K mg) : PySem.W.exmOne K (.ref (He.ga K "NoNumber")) (.ref (He.ga K "NoNumber")) = some true := of_decide_eq_true (T.c.fact 51 (f := Wk.exmB "NoNumber" "NoNumber" true))
theorem Tx.nol (T : Tx K mg) : noList K = true := T.c.fact 52
theorem Tx.sys (T : Tx K mg) : HasSys K := Option.isSome_iff_exists.mp (T.c.fact 53)
theorem Tx.f_NoName_init (T : Tx K mg) : FD K "__init__" "NoName.__init__" s_NoName_init [] (a_NoName_init K) := let ⟨_, F⟩ := T.c.def_ 0 (d := d_NoName_init); fd_of F
theorem Tx.k_NoName_init (T : Tx K mg) : PySem.W.keepIn K (.ref (a_NoName_init K)) = true := T.f_NoName_init.kp
theorem Tx.b_NoName_init (T : Tx K mg) : Binds K (fdOf K (a_NoName_init K)) ["self", "found"] [] := FunD.bindsN T.f_NoName_init fun _ _ _ _ _ _ us hl => match us, hl with | [_, _], _ => rfl
theorem Tx.f_NoNumber_init (T : Tx K mg) : FD K "__init__" "NoNumber.__init__" s_NoNumber_init [] (a_NoNumber_init K) := let ⟨_, F⟩ := T.c.def_ 1 (d := d_NoNumber_init); fd_of F
theorem Tx.k_NoNumber_init (T : Tx K mg) : PySem.W.keepIn K (.ref (a_NoNumber_init K)) = true := T.f_NoNumber_init.kp
theorem Tx.b_NoNumber_init (T : Tx K mg) : Binds K (fdOf K (a_NoNumber_init K)) ["self", "found"] [] := FunD.bindsN T.f_NoNumber_init fun _ _ _ _ _ _ us hl => match us, hl with | [_, _], _ => rfl
theorem Tx.f_is_whole (T : Tx K mg) : FD K "is_whole" "is_whole" s_is_whole [] (a_is_whole K) := let ⟨_, F⟩ := T.c.def_ 2 (d := d_is_whole); fd_of F
theorem Tx.k_is_whole (T : Tx K mg) : PySem.W.keepIn K (.ref (a_is_whole K)) = true := T.f_is_whole.kp
theorem Tx.b_is_whole (T : Tx K mg) : Binds K (fdOf K (a_is_whole K)) ["thing", "low", "high"] [] := FunD.bindsN T.f_is_whole fun _ _ _ _ _ _ us hl => match us, hl with | [_, _, _], _ => rfl
theorem Tx.f_two_figures (T : Tx K mg) : FD K "two_figures" "two_figures" s_two_figures [] (a_two_figures K) := let ⟨_, F⟩ := T.c.def_ 3 (d := d_two_figures); fd_of F
theorem Tx.k_two_figures (T : Tx K mg) : PySem.W.keepIn K (.ref (a_two_figures K)) = true := T.f_two_figures.kp
theorem Tx.b_two_figures (T : Tx K mg) : Binds K (fdOf K (a_two_figures K)) ["number"] [] := FunD.bindsN T.f_two_figures fun _ _ _ _ _ _ us hl => match us, hl with | [_], _ => rfl
theorem Tx.f_words_of (T : Tx K mg) : FD K "words_of" "words_of" s_words_of [] (a_words_of K) := let ⟨_, F⟩ := T.c.def_ 4 (d := d_words_of); fd_of F
theorem Tx.k_words_of (T : Tx K mg) : PySem.W.keepIn K (.ref (a_words_of K)) = true := T.f_words_of.kp
theorem Tx.b_words_of (T : Tx K mg) : Binds K (fdOf K (a_words_of K)) ["thing"] [] := FunD.bindsN T.f_words_of fun _ _ _ _ _ _ us hl => match us, hl with | [_], _ => rfl
theorem Tx.f_l_cell (T : Tx K mg) : FD K "_law_cell" "_law_cell" s_l_cell [] (a_l_cell K) := let ⟨_, F⟩ := T.c.def_ 5 (d := d_l_cell); fd_of F
theorem Tx.k_l_cell (T : Tx K mg) : PySem.W.keepIn K (.ref (a_l_cell K)) = true := T.f_l_cell.kp
theorem Tx.b_l_cell (T : Tx K mg) : Binds K (fdOf K (a_l_cell K)) ["script", "k"] [] := FunD.bindsN T.f_l_cell fun _ _ _ _ _ _ us hl => match us, hl with | [_, _], _ => rfl
theorem Tx.f_l_box (T : Tx K mg) : FD K "_law_box" "_law_box" s_l_box [] (a_l_box K) := let ⟨_, F⟩ := T.c.def_ 6 (d := d_l_box); fd_of F
theorem Tx.k_l_box (T : Tx K mg) : PySem.W.keepIn K (.ref (a_l_box K)) = true := T.f_l_box.kp
theorem Tx.b_l_box (T : Tx K mg) : Binds K (fdOf K (a_l_box K)) ["cell"] [] := FunD.bindsN T.f_l_box fun _ _ _ _ _ _ us hl => match us, hl with | [_], _ => rfl
theorem Tx.f_l_take (T : Tx K mg) : FD K "_law_take" "_law_take" s_l_take [] (a_l_take K) := let ⟨_, F⟩ := T.c.def_ 7 (d := d_l_take); fd_of F
theorem Tx.k_l_take (T : Tx K mg) : PySem.W.keepIn K (.ref (a_l_take K)) = true := T.f_l_take.kp
theorem Tx.b_l_take (T : Tx K mg) : Binds K (fdOf K (a_l_take K)) ["box", "many"] [] := FunD.bindsN T.f_l_take fun _ _ _ _ _ _ us hl => match us, hl with | [_, _], _ => rfl
theorem Tx.f_l_text (T : Tx K mg) : FD K "_law_text" "_law_text" s_l_text [] (a_l_text K) := let ⟨_, F⟩ := T.c.def_ 8 (d := d_l_text); fd_of F
theorem Tx.k_l_text (T : Tx K mg) : PySem.W.keepIn K (.ref (a_l_text K)) = true := T.f_l_text.kp
theorem Tx.b_l_text (T : Tx K mg) : Binds K (fdOf K (a_l_text K)) ["box"] [] := FunD.bindsN T.f_l_text fun _ _ _ _ _ _ us hl => match us, hl with | [_], _ => rfl
theorem Tx.f_l_words (T : Tx K mg) : FD K "_law_words" "_law_words" s_l_words [] (a_l_words K) := let ⟨_, F⟩ := T.c.def_ 9 (d := d_l_words); fd_of F
theorem Tx.k_l_words (T : Tx K mg) : PySem.W.keepIn K (.ref (a_l_words K)) = true := T.f_l_words.kp
theorem Tx.b_l_words (T : Tx K mg) : Binds K (fdOf K (a_l_words K)) ["text"] [] := FunD.bindsN T.f_l_words fun _ _ _ _ _ _ us hl => match us, hl with | [_], _ => rfl
theorem Tx.f_l_words_right (T : Tx K mg) : FD K "_law_words_right" "_law_words_right" s_l_words_right [] (a_l_words_right K) := let ⟨_, F⟩ := T.c.def_ 10 (d := d_l_words_right); fd_of F
theorem Tx.k_l_words_right (T : Tx K mg) : PySem.W.keepIn K (.ref (a_l_words_right K)) = true := T.f_l_words_right.kp
theorem Tx.b_l_words_right (T : Tx K mg) : Binds K (fdOf K (a_l_words_right K)) ["text"] [] := FunD.bindsN T.f_l_words_right fun _ _ _ _ _ _ us hl => match us, hl with | [_], _ => rfl
theorem Tx.f_l_figures (T : Tx K mg) : FD K "_law_figures" "_law_figures" s_l_figures [] (a_l_figures K) := let ⟨_, F⟩ := T.c.def_ 11 (d := d_l_figures); fd_of F
theorem Tx.k_l_figures (T : Tx K mg) : PySem.W.keepIn K (.ref (a_l_figures K)) = true := T.f_l_figures.kp
theorem Tx.b_l_figures (T : Tx K mg) : Binds K (fdOf K (a_l_figures K)) ["number"] [] := FunD.bindsN T.f_l_figures fun _ _ _ _ _ _ us hl => match us, hl with | [_], _ => rfl
theorem Tx.f_l_figures_right (T : Tx K mg) : FD K "_law_figures_right" "_law_figures_right" s_l_figures_right [] (a_l_figures_right K) := let ⟨_, F⟩ := T.c.def_ 12 (d := d_l_figures_right); fd_of F
theorem Tx.k_l_figures_right (T : Tx K mg) : PySem.W.keepIn K (.ref (a_l_figures_right K)) = true := T.f_l_figures_right.kp
theorem Tx.b_l_figures_right (T : Tx K mg) : Binds K (fdOf K (a_l_figures_right K)) ["box"] [] := FunD.bindsN T.f_l_figures_right fun _ _ _ _ _ _ us hl => match us, hl with | [_], _ => rfl
theorem Tx.f_law (T : Tx K mg) : FD K "law" "law" s_law [] (a_law K) := let ⟨_, F⟩ := T.c.def_ 13 (d := d_law); fd_of F
theorem Tx.k_law (T : Tx K mg) : PySem.W.keepIn K (.ref (a_law K)) = true := T.f_law.kp
theorem Tx.b_law (T : Tx K mg) : Binds K (fdOf K (a_law K)) ["script"] [] := FunD.bindsN T.f_law fun _ _ _ _ _ _ us hl => match us, hl with | [_], _ => rfl
end
theorem sc_NoName_init : FnScope ["self", "found"] ["self", "found"] (defScope s_NoName_init) := ⟨rfl, rfl, rfl, by decide +kernel, rfl, by decide +kernel, by decide +kernel⟩
theorem sc_NoNumber_init : FnScope ["self", "found"] ["self", "found"] (defScope s_NoNumber_init) := ⟨rfl, rfl, rfl, by decide +kernel, rfl, by decide +kernel, by decide +kernel⟩
theorem sc_is_whole : FnScope ["thing", "low", "high"] ["thing", "low", "high"] (defScope s_is_whole) := ⟨rfl, rfl, rfl, by decide +kernel, rfl, by decide +kernel, by decide +kernel⟩
theorem sc_two_figures : FnScope ["number"] ["number"] (defScope s_two_figures) := ⟨rfl, rfl, rfl, by decide +kernel, rfl, by decide +kernel, by decide +kernel⟩
theorem sc_words_of : FnScope ["thing", "words"] ["thing"] (defScope s_words_of) := ⟨rfl, rfl, rfl, by decide +kernel, rfl, by decide +kernel, by decide +kernel⟩
theorem sc_l_cell : FnScope ["script", "k"] ["script", "k"] (defScope s_l_cell) := ⟨rfl, rfl, rfl, by decide +kernel, rfl, by decide +kernel, by decide +kernel⟩
theorem sc_l_box : FnScope ["cell"] ["cell"] (defScope s_l_box) := ⟨rfl, rfl, rfl, by decide +kernel, rfl, by decide +kernel, by decide +kernel⟩
theorem sc_l_take : FnScope ["box", "many", "digit", "one", "other"] ["box", "many"] (defScope s_l_take) := ⟨rfl, rfl, rfl, by decide +kernel, rfl, by decide +kernel, by decide +kernel⟩
theorem sc_l_text : FnScope ["box", "signs", "way", "words", "k", "text", "at", "j"] ["box"] (defScope s_l_text) := ⟨rfl, rfl, rfl, by decide +kernel, rfl, by decide +kernel, by decide +kernel⟩
theorem sc_l_words : FnScope ["text", "found", "sign"] ["text"] (defScope s_l_words) := ⟨rfl, rfl, rfl, by decide +kernel, rfl, by decide +kernel, by decide +kernel⟩
theorem sc_l_words_right : FnScope ["text", "turn", "found"] ["text"] (defScope s_l_words_right) := ⟨rfl, rfl, rfl, by decide +kernel, rfl, by decide +kernel, by decide +kernel⟩
theorem sc_l_figures : FnScope ["number", "e"] ["number"] (defScope s_l_figures) := ⟨rfl, rfl, rfl, by decide +kernel, rfl, by decide +kernel, by decide +kernel⟩
theorem sc_l_figures_right : FnScope ["box", "some", "number", "found"] ["box"] (defScope s_l_figures_right) := ⟨rfl, rfl, rfl, by decide +kernel, rfl, by decide +kernel, by decide +kernel⟩
theorem sc_law : FnScope ["script", "k", "box"] ["script"] (defScope s_law) := ⟨rfl, rfl, rfl, by decide +kernel, rfl, by decide +kernel, by decide +kernel⟩
theorem ok_NoName_init {P : Program} {w : World} {K : PySem.W.Frag} {mg : Str → Option Value} {base : Heap} (T : Tx K mg) : FnOk P w K mg base CX0 2 (a_NoName_init K) (fdOf K (a_NoName_init K)) ["self", "found"] (spInit K (He.ga K "NoName")) :=
  FunD.ok T.f_NoName_init sc_NoName_init (fun vs H Q E h => spInit_len h) (fun cdv A outer s H vs Q E hr h => ⟨_, (pss_cons (ps_expr (pe_binit T.y_WeekError rfl (pa_cons (pv 0) (pa_cons pe_str pa_nil))))
 (pss_one (ps_ost (pv 0) (pv 1)))), init_plain h⟩)
theorem ok_NoNumber_init {P : Program} {w : World} {K : PySem.W.Frag} {mg : Str → Option Value} {base : Heap} (T : Tx K mg) : FnOk P w K mg base CX0 2 (a_NoNumber_init K) (fdOf K (a_NoNumber_init K)) ["self", "found"] (spInit K (He.ga K "NoNumber")) :=
  FunD.ok T.f_NoNumber_init sc_NoNumber_init (fun vs H Q E h => spInit_len h) (fun cdv A outer s H vs Q E hr h => ⟨_, (pss_cons (ps_expr (pe_binit T.y_WeekError rfl (pa_cons (pv 0) (pa_cons pe_str pa_nil))))
 (pss_one (ps_ost (pv 0) (pv 1)))), init_plain h⟩)
end Wk

set_option maxRecDepth 100000
set_option maxHeartbeats 4000000
namespace Wk
open PySem PySem.Spec PyProof.Rows L2
local macro_rules | `(tactic| walk_at "mem") => `(tactic| first
  | exact List.mem_cons_self ..
  | exact List.mem_cons_of_mem _ (List.mem_cons_self ..)
  | exact List.mem_cons_of_mem _ (List.mem_cons_of_mem _ (List.mem_cons_self ..))
  | exact List.mem_cons_of_mem _ (List.mem_cons_of_mem _ (List.mem_cons_of_mem _ (List.mem_cons_self ..)))
  | exact List.mem_cons_of_mem _ (List.mem_cons_of_mem _ (List.mem_cons_of_mem _ (List.mem_cons_of_mem _ (List.mem_cons_self ..)))))
local macro_rules | `(tactic| walk_at "dat") => `(tactic| first
  | assumption
  | (refine Ex.of ?_ (by assumption); walk_at "dat"))
local macro_rules | `(tactic| walk_at "ex") => `(tactic| first
  | assumption
  | exact Ex.refl _
  | (refine Ex.trans ?_ (by assumption); walk_at "ex"))
local macro_rules | `(tactic| walk_at "hp") => `(tactic| first
  | assumption
  | exact HI.get (by assumption) (by walk_at "mem")
  | exact HI.dat (by assumption) (by walk_at "dat"))
local macro_rules | `(tactic| walk_at "hi") => `(tactic| first
  | assumption
  | exact HI.swap (by assumption)
  | exact HI.up2 (by assumption)
  | exact HI.up3 (by assumption))
local macro_rules | `(tactic| walk_at "num") => `(tactic| first
  | omega
  | decide
  | exact ⟨by decide, by decide⟩
  | exact cdiv_of (by omega) (by omega)
  | exact ⟨by omega, by omega⟩
  | (refine ⟨by omega, by omega, ?_⟩; omega)
  | exact Or.inl ⟨by omega, by omega⟩
  | exact Or.inr ⟨by omega, by omega⟩)
local macro_rules | `(tactic| walk_at "kn") => `(tactic| first
  | assumption
  | exact Kn.int _
  | exact Kn.str _
  | exact Kn.bl _
  | exact Kn.non
  | exact HI.kn (by assumption) (by assumption)
  | exact HI.kn (by assumption) (Kn.mono (by assumption) (by assumption))
  | exact Kn.lst (by walk_at "hp")
  | exact Kn.tup (by walk_at "hp")
  | exact Kn.dict (by walk_at "hp"))
local macro_rules | `(tactic| walk_at "s1") => `(tactic| first
  | with_reducible refine st_seq ?_
  | with_reducible refine st_asg ?_
  | with_reducible refine st_ret ?_
  | with_reducible refine st_if ?_
  | with_reducible refine st_drop ?_
  | with_reducible refine st_next ?_
  | with_reducible refine st_brk ?_
  | with_reducible refine st_cont ?_
  | with_reducible refine sg_name ?_
  | with_reducible refine sg_sub ?_
  | with_reducible refine sg_nil ?_
  | with_reducible refine sg_cons ?_
  | ((with_reducible refine' sg_tup ?e1 ?e2 ?_); (case e1 => exact SqT.of (by walk_at "hp")); (case e2 => rfl))
  | ((with_reducible refine' se_var ?e1 ?_); (case e1 => rfl))
  | with_reducible refine se_c ?_
  | with_reducible refine se_op ?_
  | with_reducible refine se_un ?_
  | with_reducible refine se_tup ?_
  | with_reducible refine se_lst ?_
  | with_reducible refine se_lstM ?_
  | with_reducible refine st_for ?_
  | with_reducible refine se_lc ?_
  | with_reducible refine it_rng1 ?_
  | with_reducible refine it_rng2 ?_
  | with_reducible refine it_list ?_
  | with_reducible refine it_str ?_
  | with_reducible refine strI_mk ?_
  | ((with_reducible refine' list_mk ?e1 ?_); (case e1 => walk_at "hp"))
  | ((with_reducible refine' rng1_mk ?e1 ?e2 ?_); (case e1 => omega); (case e2 => omega))
  | ((with_reducible refine' rng2_mk ?e1 ?_); (case e1 => omega))
  | with_reducible refine st_yes ?_
  | ((with_reducible refine' al_D ?e1 ?_); (case e1 => assumption); intro _ _ _ _ _ _)
  | ((with_reducible refine' al_M ?e1 ?_); (case e1 => assumption); intro _ _ _)
  | ((with_reducible refine' and_on ?e1 ?_); (case e1 => first | exact small_ok (Nat.le_of_ble_eq_true rfl) | rfl | omega))
  | with_reducible refine sa_nil ?_
  | with_reducible refine sa_cons ?_
  | with_reducible refine se_cb ?_
  | with_reducible refine se_if ?_
  | with_reducible refine st_test ?_
  | with_reducible refine st_B ?_
  | with_reducible refine st_bl ?_
  | with_reducible refine st_and ?_
  | with_reducible refine st_or ?_
  | with_reducible refine st_not ?_
  | with_reducible refine ri0_mk ?_
  | with_reducible refine ru_mk ?_
  | ((with_reducible refine' ri_mk ?e1 ?_); (case e1 => walk_at "num"))
  | with_reducible refine RAdd.int ?_
  | ((with_reducible refine' RMul.int ?e1 ?_); (case e1 => walk_at "num"))
  | with_reducible refine req_int ?_
  | with_reducible refine rne_int ?_
  | with_reducible refine req_str ?_
  | with_reducible refine rne_str ?_
  | ((with_reducible refine' RIx.l ?e1 ?e2 ?_); (case e1 => walk_at "hp"); (case e2 => rfl))
  | ((with_reducible refine' set_c ?e1 ?e2 ?_); (case e1 => assumption); (case e2 => rfl); intro _ _)
  | ((with_reducible refine' set_c2 ?e1 ?e2 ?_); (case e1 => assumption); (case e2 => rfl); intro _ _)
  | ((with_reducible refine' set_c3 ?e1 ?e2 ?_); (case e1 => assumption); (case e2 => rfl); intro _ _)
  | with_reducible refine iteT ?_
  | with_reducible refine iteF ?_
  | ((with_reducible refine' if_yes ?e1 ?_); (case e1 => omega))
  | ((with_reducible refine' if_no ?e1 ?_); (case e1 => omega))
  | ((with_reducible refine' if_yesN ?e1 ?_); (case e1 => omega))
  | ((with_reducible refine' if_noN ?e1 ?_); (case e1 => omega))
  | ((with_reducible refine' RIx.t ?e1 ?e2 ?_); (case e1 => walk_at "hp"); (case e2 => rfl))
  | with_reducible refine se_andV ?_
  | with_reducible refine se_orV ?_
  | with_reducible refine se_notV ?_
  | with_reducible refine se_chain ?_
  | with_reducible refine se_sl ?_
  | with_reducible refine so_none ?_
  | with_reducible refine so_some ?_
  | with_reducible refine so_int ?_
  | with_reducible refine se_m1 ?_
  | with_reducible refine se_m0 ?_
  | with_reducible refine m_str ?_
  | with_reducible refine se_mkE ?_
  | ((with_reducible refine' mkE_now ?e1 ?_); (case e1 => assumption); intro _ _ _ _ _ _ _ _)
  | with_reducible refine st_raiseX ?_
  | ((with_reducible refine' mkX_now ?e1 ?_); (case e1 => assumption); intro _ _ _ _ _ _)
  | with_reducible refine st_par ?_
  | with_reducible refine par_mk ?_
  | ((with_reducible refine' st_aug ?e1 ?_); (case e1 => rfl))
  | ((with_reducible refine' RIsi.ty ?e1 ?e2 ?_); (case e1 => walk_at "kn"); (case e2 => decide))
  | with_reducible refine ris_non ?_
  | with_reducible refine ris_nonN ?_
  | with_reducible refine ris_bl ?_
  | with_reducible refine ris_blN ?_
  | with_reducible refine rin_sign ?_
  | with_reducible refine rni_sign ?_
  | ((with_reducible refine' RLen.str ?e1 ?_); (case e1 => first | exact small_ok (by omega) | exact small_ok (Nat.le_of_ble_eq_true rfl)))
  | ((with_reducible refine' RLen.lst ?e1 ?_); (case e1 => walk_at "hp"))
  | ((with_reducible refine' RLen.frz ?e1 ?_); (case e1 => walk_at "hp"))
  | ((with_reducible refine' RLen.tup ?e1 ?_); (case e1 => walk_at "hp"))
  | (with_reducible refine RMx.mk ?_; intro _ _ _ _)
  | (with_reducible refine RMn.mk ?_; intro _ _ _ _)
  | with_reducible refine RStarts.mk ?_
  | with_reducible refine RFind.mk ?_
  | with_reducible refine RInt.bl ?_
  | ((with_reducible refine' RAll.mk ?e1 ?_); (case e1 => walk_at "hp")))
local macro_rules | `(tactic| walk_at "sx") => `(tactic| repeat (walk_at "s1"; try dsimp only [List.set, Int.reduceToNat]))
local macro_rules | `(tactic| walk_at "go") => `(tactic| (dsimp only [cxOf, L2.start, List.map, List.length, List.replicate, Nat.reduceAdd, Nat.reduceSub, List.replicate, HAppend.hAppend, Append.append, List.append]; walk_at "sx"))
local macro_rules | `(tactic| walk_at "sxm") => `(tactic| repeat (first | ((with_reducible refine' mod_let ?e1 ?_); (case e1 => omega); intro _ _ _) | walk_at "s1"; try dsimp only [List.set, Int.reduceToNat]))
local macro_rules | `(tactic| walk_at "go0") => `(tactic| dsimp only [cxOf, L2.start, List.map, List.length, List.replicate, Nat.reduceAdd, Nat.reduceSub, List.replicate, HAppend.hAppend, Append.append, List.append])

/-- the three numbers of a box, drawn at most n times -/
structure BoxOk (n : Nat) (x y z : Int) : Prop where
  x0 : 0 ≤ x
  y0 : 0 ≤ y
  y1 : y < 2147483629
  z0 : 0 ≤ z
  z1 : z ≤ n
abbrev bx (x y z : Int) : HO := .lst [.int x, .int y, .int z]
/-- a draw: below many, the box drawn once more -/
def spTake : Sp := fun vs H Q _ => ∃ (b : Addr) (m : Int) (R : List (Addr × HO)) (D : Hp) (x y z : Int) (n : Nat), vs = [.ref b, .int m] ∧ 0 < m ∧ m < 2 ^ 100 ∧ HI H ((b, bx x y z) :: R) D ∧ BoxOk n x y z ∧ n < 1000000 ∧
  ∀ r x' y' z' H', HI H' ((b, bx x' y' z') :: R) D → BoxOk (n + 1) x' y' z' → 0 ≤ r → r < m → Q (.int r) H'
theorem take_now {b : Addr} {m : Int} {R : List (Addr × HO)} {D H : Hp} {x y z : Int} {n : Nat} {Q : VK} {E : XK} (hi : HI H ((b, bx x y z) :: R) D) (m0 : 0 < m) (m1 : m < 2 ^ 100) (hb : BoxOk n x y z) (hn : n < 1000000)
    (k : ∀ r x' y' z' H', HI H' ((b, bx x' y' z') :: R) D → BoxOk (n + 1) x' y' z' → 0 ≤ r → r < m → Q (.int r) H') : spTake ([V.ref b, V.int m] ++ []) H Q E := ⟨b, m, R, D, x, y, z, n, rfl, m0, m1, hi, hb, hn, k⟩
set_option maxHeartbeats 400000 in
theorem ok_l_take {P : Program} {w : World} {K : PySem.W.Frag} {mg : Str → Option Value} {base : Heap} (T : Tx K mg) : FnG P w K mg base 1 (a_l_take K) ["box", "many"] spTake := by
  refine T.f_l_take.ok sc_l_take (fun vs H Q E h => ?_) (fun cdv A outer s H vs Q E hgu hr h => ⟨_, (pss_cons (ps_if (pt_cmpR op_gt (pe_ix ix_U (pv 0) pe_int (fun _ _ => rfl)) pe_int (nomark _)) (pss_cons (ps_set (i := 2) sc_l_take.nd rfl (Or.inl rfl) (pe_op op_mod (pe_ix ix_U (pv 0) pe_int (fun _ _ => rfl)) (pv 1)))
 (pss_cons (ps_asg (pe_op op_fdivW (pe_ix ix_U (pv 0) pe_int (fun _ _ => rfl)) (pv 1)) (pg_sub (pv 0) pe_int set_list))
 (pss_one (ps_ret (pv 2))))) pss_nil)
 (pss_cons (ps_asg (pe_op op_addU (pe_ix ix_U (pv 0) pe_int (fun _ _ => rfl)) pe_int) (pg_sub (pv 0) pe_int set_list))
 (pss_cons (ps_set (i := 3) sc_l_take.nd rfl (Or.inl rfl) (pe_op op_mod (pe_op op_pow (pe_op op_addU (pe_op op_addU (pe_ix ix_U (pv 0) pe_int (fun _ _ => rfl)) (pe_op op_mulU pe_int (pe_ix ix_U (pv 0) pe_int (fun _ _ => rfl)))) pe_int) pe_int) pe_int))
 (pss_cons (ps_set (i := 4) sc_l_take.nd rfl (Or.inl rfl) (pe_op op_mod (pe_op op_pow (pe_op op_addU (pe_op op_addU (pe_op op_fdivW (pv 3) pe_int) (pe_op op_mulU (pe_op op_mulU pe_int (pe_ix ix_U (pv 0) pe_int (fun _ _ => rfl))) (pe_ix ix_U (pv 0) pe_int (fun _ _ => rfl)))) pe_int) pe_int) pe_int))
 (pss_one (ps_ret (pe_op op_mod (pe_op op_addU (pe_op op_fdivW (pv 3) pe_int) (pe_op op_mulU pe_int (pe_op op_fdivW (pv 4) pe_int))) (pv 1)))))))), ?_⟩)
  · obtain ⟨b, m, R, D, x, y, z, n, rfl, _⟩ := h
    rfl
  · obtain ⟨b, m, R, D, x, y, z, n, rfl, m0, m1, hi, hb, hn, k⟩ := h
    obtain ⟨x0, y0, y1, z0, z1⟩ := hb
    walk_at "go"
    refine if_dec (fun h => ?_) (fun h => ?_)
    · walk_at "sx"
      exact k _ _ _ _ _ (by assumption) ⟨Int.ediv_nonneg x0 (by omega), y0, y1, z0, by omega⟩ (Int.emod_nonneg _ (by omega)) (Int.emod_lt_of_pos _ m0)
    · walk_at "sxm"
      refine ri_mk ⟨by decide, by decide, pow_ok (by omega) (by omega) (by omega) (by omega) (by omega) (by omega) (by omega) (by omega)⟩ ?_
      walk_at "sxm"
      exact k _ _ _ _ _ (by assumption) ⟨x0, y0, y1, by omega, by omega⟩ (by assumption) (by assumption)
theorem take_more {α : Type} : ∀ {l : List α} {i : Nat} {x : α}, l[i]? = some x → l.take (i + 1) = l.take i ++ [x]
  | [], i, x, h => by simp at h
  | a :: l, 0, x, h => by
    have e : a = x := Option.some.inj h
    subst e
    rfl
  | a :: l, i + 1, x, h => by
    have ih := take_more (l := l) (i := i) (x := x) h
    show a :: l.take (i + 1) = a :: l.take i ++ [x]
    rw [ih]
    rfl
theorem cps_get {z : Str} {i c : Nat} (h : z.cps[i]? = some c) : z.cps.toList[i]? = some c := by
  rw [← h]
  simp
theorem cps_len {z : Str} : z.cps.toList.length = z.length := rfl
theorem cps_size {z : Str} : z.cps.size = z.length := rfl
def spCell : Sp := fun vs H Q _ => ∃ (l : Addr) (o : Obj) (k : Int) (ns : List Int) (R : Cells) (D : Hp), vs = [.ref l, .int k] ∧ HI H R D ∧ D l = some (.frz o (.lst (ns.map V.int))) ∧ 0 ≤ k ∧ k < 1000 ∧ ∀ c H', HI H' R D → Q (.int c) H'
def spBox : Sp := fun vs H Q _ => ∃ (c : Int) (R : Cells) (D : Hp), vs = [.int c] ∧ HI H R D ∧ ∀ b x y H', HI H' ((b, bx x y 0) :: R) D → BoxOk 0 x y 0 → Q (.ref b) H'
set_option maxHeartbeats 400000 in
theorem ok_l_cell {P : Program} {w : World} {K : PySem.W.Frag} {mg : Str → Option Value} {base : Heap} (T : Tx K mg) : FnG P w K mg base 1 (a_l_cell K) ["script", "k"] spCell := by
  refine T.f_l_cell.ok sc_l_cell (fun vs H Q E h => ?_) (fun cdv A outer s H vs Q E hgu hr h => ⟨_, (pss_cons (ps_if (pt_cmpR op_lt (pv 1) (pe_callB (call_lenU) (by rfl) T.n_len boot_len (pa_cons (pv 0) pa_nil)) (nomark _)) (pss_one (ps_ret (pe_ix ix_U (pv 0) (pv 1) (fun _ _ => rfl)))) pss_nil)
 (pss_one (ps_ret (pe_op op_addU (pe_op op_mulU pe_int (pv 1)) pe_int)))), ?_⟩)
  · obtain ⟨l, o, k, ns, R, D, rfl, _⟩ := h
    rfl
  · obtain ⟨l, o, k, ns, R, D, rfl, hi, hl, k0, k1, go⟩ := h
    walk_at "go"
    refine if_dec (fun h => ?_) (fun h => ?_)
    · walk_at "sx"
      rw [List.length_map] at h
      obtain ⟨j, rfl⟩ := Int.eq_ofNat_of_zero_le k0
      have hj : j < ns.length := by omega
      refine RIx.f (by walk_at "hp") (atI_map (List.getElem?_eq_getElem hj)) ?_
      exact go _ _ (by assumption)
    · walk_at "sx"
      exact go _ _ (by assumption)
set_option maxHeartbeats 400000 in
theorem ok_l_box {P : Program} {w : World} {K : PySem.W.Frag} {mg : Str → Option Value} {base : Heap} (T : Tx K mg) : FnG P w K mg base 1 (a_l_box K) ["cell"] spBox := by
  refine T.f_l_box.ok sc_l_box (fun vs H Q E h => ?_) (fun cdv A outer s H vs Q E hgu hr h => ⟨_, (pss_one (ps_ret (pe_lstM (pa_cons (pe_callB (call_maxU rfl) (by rfl) T.n_max boot_max (pa_cons pe_int (pa_cons (pe_op op_sub (pv 0) (pe_op op_pow pe_int pe_int)) pa_nil))) (pa_cons (pe_op op_mod (pv 0) pe_int) (pa_cons pe_int pa_nil)))))), ?_⟩)
  · obtain ⟨c, R, D, rfl, _⟩ := h
    rfl
  · obtain ⟨c, R, D, rfl, hi, go⟩ := h
    walk_at "go"
    walk_at "sxm"
    exact go _ _ _ _ (by assumption) ⟨by omega, by omega, by omega, by omega, by omega⟩
theorem cell_now {l : Addr} {o : Obj} {k : Int} {ns : List Int} {R : Cells} {D H : Hp} {Q : VK} {E : XK} (hi : HI H R D) (hl : D l = some (.frz o (.lst (ns.map V.int)))) (k0 : 0 ≤ k) (k1 : k < 1000) (q : ∀ c H', HI H' R D → Q (.int c) H') : spCell ([V.ref l, V.int k] ++ []) H Q E := ⟨l, o, k, ns, R, D, rfl, hi, hl, k0, k1, q⟩
theorem box_now {c : Int} {R : Cells} {D H : Hp} {Q : VK} {E : XK} (hi : HI H R D) (q : ∀ b x y H', HI H' ((b, bx x y 0) :: R) D → BoxOk 0 x y 0 → Q (.ref b) H') : spBox ([V.int c] ++ []) H Q E := ⟨c, R, D, rfl, hi, q⟩
end Wk

set_option maxRecDepth 100000
set_option maxHeartbeats 4000000
/-! Numbers that a text writes: two ways to reckon them. -/
namespace Wk
open PySem PySem.Spec PyProof.Rows L2 PySem.NumText
abbrev tl' (z : Str) : List Nat := z.cps.toList
def oV : Option Int → V
  | none => .non
  | some i => .int i
theorem str_ext {a b : Str} (h : tl' a = tl' b) : a = b := by
  obtain ⟨⟨a⟩⟩ := a
  obtain ⟨⟨b⟩⟩ := b
  have e : a = b := h
  rw [e]
theorem sIx_le' (n d : Nat) (k : Nat) : HT.sIx n d (some (k : Int)) = min k n := HT.sIx_nat n d k
theorem cut_drop (z : Str) (k : Nat) : tl' (cutS z (some (k : Int)) none) = (tl' z).drop k := by
  have hl : z.cps.toList.length = z.length := rfl
  show ((z.cps.toList.drop (HT.sIx z.length 0 (some (k : Int)))).take (HT.sIx z.length z.length none - HT.sIx z.length 0 (some (k : Int)))) = z.cps.toList.drop k
  rw [sIx_le', HT.sIx_none]
  by_cases h : k ≤ z.length
  · rw [Nat.min_eq_left h, List.take_of_length_le (by rw [List.length_drop, hl]; omega)]
  · rw [Nat.min_eq_right (by omega), List.drop_eq_nil_of_le (by rw [hl]; omega), List.drop_eq_nil_of_le (by rw [hl]; omega), List.take_nil]
theorem cut_take (z : Str) (k : Nat) : tl' (cutS z none (some (k : Int))) = (tl' z).take k := by
  have hl : z.cps.toList.length = z.length := rfl
  show ((z.cps.toList.drop (HT.sIx z.length 0 none)).take (HT.sIx z.length z.length (some (k : Int)) - HT.sIx z.length 0 none)) = z.cps.toList.take k
  rw [sIx_le', HT.sIx_none, List.drop_zero, Nat.sub_zero]
  by_cases h : k ≤ z.length
  · rw [Nat.min_eq_left h]
  · rw [Nat.min_eq_right (by omega), List.take_of_length_le (by rw [hl]; omega), List.take_of_length_le (by rw [hl]; omega)]
/-- a leading minus -/
def neg (l : List Nat) : Bool := decide (l.head? = some 45)
theorem starts_neg (z : Str) : Txt.startswith z "-" = neg (tl' z) := by
  obtain ⟨⟨l⟩⟩ := z
  unfold Txt.startswith Builtin.Str.subAt neg
  have e : (Str.ofString "-").cps = #[45] := rfl
  cases l with
  | nil => rfl
  | cons c r =>
    by_cases h : c = 45
    · subst h
      simp [Str.length, e, tl']
    · simp [Str.length, e, tl', h]
def figures (l : List Nat) : List Nat := if neg l then l.drop 1 else l
instance : DecidablePred AllDigits := fun l => inferInstanceAs (Decidable (∀ c ∈ l, 48 ≤ c ∧ c ≤ 57))
def figO (l : List Nat) : Option Int := if l = [] ∨ 10 < l.length ∨ ¬ AllDigits l then none else if l.head? = some 48 ∧ l ≠ [48] then none else some ((digitsVal l : Nat) : Int)
def inO (o : Option Int) (lo hi : Int) : Option Int := o.bind fun n => if lo ≤ n ∧ n ≤ hi then some n else none
def numO (l : List Nat) (lo hi : Int) : Option Int := match figO (figures l) with
  | none => none
  | some n => if neg l = true ∧ n = 0 then none else inO (some (if neg l then 0 - n else n)) lo hi
def valO (l : List Nat) : Option Int := if figures l = [] ∨ ((figures l).head? = some 48 ∧ l ≠ [48]) then none else if AllDigits (figures l) then some (if neg l then 0 - ((digitsVal (figures l) : Nat) : Int) else ((digitsVal (figures l) : Nat) : Int)) else none
theorem foldl_ge : ∀ (l : List Nat) (a : Nat), a * 10 ^ l.length ≤ l.foldl (fun acc c => acc * 10 + (c - 48)) a
  | [], a => by simp
  | c :: l, a => by
    rw [List.foldl_cons, List.length_cons]
    have ih := foldl_ge l (a * 10 + (c - 48))
    have h : a * 10 ^ (l.length + 1) ≤ (a * 10 + (c - 48)) * 10 ^ l.length := by
      rw [Nat.pow_succ, Nat.mul_comm (10 ^ l.length) 10, ← Nat.mul_assoc]
      exact Nat.mul_le_mul_right _ (by omega)
    exact Nat.le_trans h ih
theorem val_big {c : Nat} {l : List Nat} (h : 49 ≤ c) : 10 ^ l.length ≤ digitsVal (c :: l) := by
  unfold digitsVal
  rw [List.foldl_cons]
  have := foldl_ge l (0 * 10 + (c - 48))
  have h2 : 1 * 10 ^ l.length ≤ (0 * 10 + (c - 48)) * 10 ^ l.length := Nat.mul_le_mul_right _ (by omega)
  omega
/-- the two ways tell the same -/
theorem num_val {l : List Nat} {lo hi : Int} (h0 : -999999999 ≤ lo) (h1 : hi ≤ 1000000000) : numO l lo hi = inO (valO l) lo hi := by
  unfold numO valO
  generalize ef : figures l = f
  cases f with
  | nil => simp [figO, inO]
  | cons c r =>
    by_cases hd : AllDigits (c :: r)
    · by_cases h48 : c = 48
      · subst h48
        by_cases hr : r = []
        · subst hr
          have e1 : figO [48] = some 0 := by decide
          rw [e1]
          by_cases hn : neg l = true
          · have hl : l ≠ [48] := fun e => by
              rw [e] at hn
              exact absurd hn (by decide)
            simp [hn, hl, inO]
          · have hl : l = [48] := by
              unfold figures at ef
              rw [if_neg hn] at ef
              exact ef
            subst hl
            have e2 : digitsVal [48] = 0 := by decide
            have hn2 : neg [48] = false := by decide
            simp [hn2, e2, hd]
        · have e1 : figO (48 :: r) = none := by
            unfold figO
            by_cases hlen : 10 < (48 :: r).length
            · rw [if_pos (.inr (.inl hlen))]
            · rw [if_neg (by simp at hlen ⊢; exact ⟨by omega, hd⟩), if_pos ⟨rfl, by simp [hr]⟩]
          have hl : l ≠ [48] := fun e => by
            subst e
            have : (48 :: r) = [48] := by
              rw [← ef]
              decide
            simp at this
            exact hr this
          rw [e1]
          simp [hl, inO]
      · have hc : 49 ≤ c := by
          have := hd c (List.mem_cons_self ..)
          omega
        have hb := val_big (l := r) hc
        by_cases hlen : 10 < (c :: r).length
        · have e1 : figO (c :: r) = none := by
            unfold figO
            rw [if_pos (.inr (.inl hlen))]
          rw [e1]
          have hp : 10 ^ 10 ≤ 10 ^ r.length := Nat.pow_le_pow_right (by decide) (by simp at hlen; omega)
          have hv : (10000000000 : Nat) ≤ digitsVal (c :: r) := Nat.le_trans (by simpa using hp) hb
          generalize digitsVal (c :: r) = v at hv
          by_cases hn : neg l = true
          · simp [h48, hd, inO, hn]
            omega
          · simp [h48, hd, inO, hn]
            omega
        · have e1 : figO (c :: r) = some ((digitsVal (c :: r) : Nat) : Int) := by
            unfold figO
            rw [if_neg (by simp at hlen ⊢; exact ⟨by omega, hd⟩), if_neg (by simp [h48])]
          rw [e1]
          have hv : 1 ≤ digitsVal (c :: r) := Nat.le_trans (Nat.one_le_pow _ _ (by decide)) hb
          generalize digitsVal (c :: r) = v at hv
          have hz : ¬ (neg l = true ∧ ((v : Nat) : Int) = 0) := fun ⟨_, q⟩ => by omega
          show (if neg l = true ∧ ((v : Nat) : Int) = 0 then none else _) = _
          rw [if_neg hz]
          simp [h48, hd]
    · have e1 : figO (c :: r) = none := by
        unfold figO
        rw [if_pos (.inr (.inr hd))]
      rw [e1]
      simp [hd, inO]
theorem cut1_neg (z : Str) : decide (cutS z none (some 1) = Str.ofString "-") = neg (tl' z) := by
  unfold neg
  have e := cut_take z 1
  by_cases h : (tl' z).head? = some 45
  · rw [decide_eq_true h]
    refine decide_eq_true (str_ext (e.trans ?_))
    cases q : tl' z with
    | nil => rw [q] at h; cases h
    | cons c r =>
      rw [q] at h
      have : c = 45 := Option.some.inj h
      rw [this]
      rfl
  · rw [decide_eq_false h]
    refine decide_eq_false fun q => h ?_
    rw [show cutS z none (some 1) = cutS z none (some ((1 : Nat) : Int)) from rfl] at q
    rw [q] at e
    cases w : tl' z with
    | nil => rw [w] at e; exact absurd e (by decide)
    | cons c r =>
      rw [w] at e
      have : [45] = [c] := e
      rw [(List.cons.inj this).1]
      rfl
theorem dv_snoc {l : List Nat} {c : Nat} (h : 48 ≤ c) : ((digitsVal (l ++ [c]) : Nat) : Int) = 10 * ((digitsVal l : Nat) : Int) + ((c : Int) - 48) := by
  unfold digitsVal
  rw [List.foldl_append, List.foldl_cons, List.foldl_nil]
  omega
/-- the digit that a sign is -/
theorem find_digit {c : Nat} : Txt.find "0123456789" ⟨#[c]⟩ = if 48 ≤ c ∧ c ≤ 57 then (c : Int) - 48 else -1 := by
  by_cases h : 48 ≤ c ∧ c ≤ 57
  · rw [if_pos h]
    have : c = 48 ∨ c = 49 ∨ c = 50 ∨ c = 51 ∨ c = 52 ∨ c = 53 ∨ c = 54 ∨ c = 55 ∨ c = 56 ∨ c = 57 := by omega
    rcases this with e | e | e | e | e | e | e | e | e | e <;> subst e <;> decide +kernel
  · rw [if_neg h]
    have e := PySem.StrLaws.found_one "0123456789" c
    have n : decide (c ∈ (Str.ofString "0123456789").cps.toList) = false := decide_eq_false fun m => h (by
      rw [show (Str.ofString "0123456789").cps.toList = [48, 49, 50, 51, 52, 53, 54, 55, 56, 57] from rfl] at m
      simp at m
      omega)
    rw [n] at e
    unfold Txt.find
    generalize Builtin.Str.occurrences (Str.ofString "0123456789") ⟨#[c]⟩ 0 (Str.ofString "0123456789").length 1 = o at e ⊢
    cases o with
    | nil => rfl
    | cons a b => exact absurd e (by simp)
theorem in_digits {c : Nat} : decide (c ∈ (Str.ofString "0123456789").cps.toList) = decide (48 ≤ c ∧ c ≤ 57) := by
  rw [show (Str.ofString "0123456789").cps.toList = [48, 49, 50, 51, 52, 53, 54, 55, 56, 57] from rfl]
  by_cases h : 48 ≤ c ∧ c ≤ 57
  · rw [decide_eq_true h]
    refine decide_eq_true ?_
    simp
    omega
  · rw [decide_eq_false h]
    refine decide_eq_false fun m => h ?_
    simp at m
    omega
end Wk

set_option maxRecDepth 100000
set_option maxHeartbeats 4000000
/-! Texts all of whose signs are of a kind. -/
namespace Wk
open PySem PySem.Spec PyProof.Rows L2
def LP (P : Nat → Prop) (z : Str) : Prop := ∀ c ∈ z.cps.toList, P c
section
variable {P : Nat → Prop}
theorem LP.app {a b : Str} (h : LP P a) (k : LP P b) : LP P (a ++ b) := fun c hc => by
  rw [tl_app] at hc
  rcases List.mem_append.mp hc with h1 | h1
  · exact h c h1
  · exact k c h1
theorem LP.cut {z : Str} (h : LP P z) (lo hi : Option Int) : LP P (cutS z lo hi) := fun c hc => by
  unfold cutS at hc
  simp only at hc
  exact h c (List.mem_of_mem_drop (List.mem_of_mem_take (by simpa using hc)))
theorem LP.one {z : Str} {c : Nat} (h : LP P z) (m : c ∈ z.cps.toList) : LP P ⟨#[c]⟩ := fun d hd => by
  simp at hd
  rw [hd]
  exact h c m
def OnesP (P : Nat → Prop) (ys : List Str) : Prop := ∀ y ∈ ys, y.length = 1 ∧ LP P y
theorem OnesP.sum : ∀ {ys : List Str}, OnesP P ys → (ys.map (·.length)).sum = ys.length
  | [], _ => rfl
  | y :: ys, h => by
    have ih := OnesP.sum (ys := ys) fun z hz => h z (List.mem_cons_of_mem _ hz)
    have e := (h y (List.mem_cons_self ..)).1
    simp only [List.map_cons, List.sum_cons, List.length_cons, ih, e]
    omega
theorem OnesP.nil : OnesP P [] := fun y hy => by cases hy
theorem OnesP.snoc {ys : List Str} {z : Str} {c : Nat} (h : OnesP P ys) (hz : LP P z) (m : c ∈ z.cps.toList) : OnesP P (ys ++ [⟨#[c]⟩]) := fun y hy => by
  rcases List.mem_append.mp hy with h1 | h1
  · exact h y h1
  · rw [List.mem_singleton.mp h1]
    exact ⟨rfl, hz.one m⟩
theorem onesP_join : ∀ {ys : List Str}, OnesP P ys → (Txt.join "" ys).length = ys.length ∧ LP P (Txt.join "" ys)
  | [], _ => ⟨rfl, fun c hc => by simp [Txt.join, Builtin.Str.glued, Str.empty] at hc⟩
  | [y], h => by
    rw [TL.join_eq]
    show y.length = 1 ∧ LP P y
    exact h y (List.mem_cons_self ..)
  | x :: y :: r, h => by
    have ih := onesP_join (ys := y :: r) fun z hz => h z (List.mem_cons_of_mem _ hz)
    have hx := h x (List.mem_cons_self ..)
    rw [TL.join_eq] at ih ⊢
    show (x ++ "" ++ Str.join "" (y :: r)).length = _ ∧ LP P (x ++ "" ++ Str.join "" (y :: r))
    have e : (x ++ ("" : Str)) = x := PySem.Str.append_empty x
    rw [e, len_app, ih.1, hx.1]
    refine ⟨by simp only [List.length_cons]; omega, hx.2.app ih.2⟩
theorem len_tl (z : Str) : (tl' z).length = z.length := rfl
/-- a slice up to a place, between two places -/
theorem rsl_to {z : Str} {k : Int} {H : Hp} {Q : VK} (hl : z.length ≤ 1000000) (k0 : 0 ≤ k) (s : LP P z) (q : ∀ y, (y.length : Int) ≤ k → (k ≤ z.length → (y.length : Int) = k) → y.length ≤ z.length → LP P y → Q (.str y) H) : RSl (.str z) none (some k) H Q := by
  obtain ⟨n, rfl⟩ := Int.eq_ofNat_of_zero_le k0
  have e := congrArg List.length (cut_take z n)
  rw [List.length_take, len_tl, len_tl] at e
  exact RSl.str (small_ok hl) (q _ (by show ((cutS z none (some (n : Int))).length : Int) ≤ n; omega) (fun h => by show ((cutS z none (some (n : Int))).length : Int) = n; omega) (len_cut ..) (s.cut _ _))
theorem rsl_mid {z : Str} {a b : Int} {H : Hp} {Q : VK} (hl : z.length ≤ 1000000) (a0 : 0 ≤ a) (ab : a ≤ b) (s : LP P z) (q : ∀ y, (y.length : Int) ≤ b - a → LP P y → Q (.str y) H) : RSl (.str z) (some a) (some b) H Q := by
  obtain ⟨m, rfl⟩ := Int.eq_ofNat_of_zero_le a0
  obtain ⟨n, rfl⟩ := Int.eq_ofNat_of_zero_le (Int.le_trans a0 ab)
  refine RSl.str (small_ok hl) (q _ ?_ (s.cut _ _))
  show (((z.cps.toList.drop (HT.sIx z.length 0 (some (m : Int)))).take (HT.sIx z.length z.length (some (n : Int)) - HT.sIx z.length 0 (some (m : Int)))).toArray.size : Int) ≤ (n : Int) - m
  rw [List.size_toArray, List.length_take, sIx_le', sIx_le']
  omega
theorem cut_mid_len {z : Str} {a b : Int} (a0 : 0 ≤ a) (ab : a ≤ b) : ((cutS z (some a) (some b)).length : Int) ≤ b - a := by
  obtain ⟨m, rfl⟩ := Int.eq_ofNat_of_zero_le a0
  obtain ⟨n, rfl⟩ := Int.eq_ofNat_of_zero_le (Int.le_trans a0 ab)
  show (((z.cps.toList.drop (HT.sIx z.length 0 (some (m : Int)))).take (HT.sIx z.length z.length (some (n : Int)) - HT.sIx z.length 0 (some (m : Int)))).toArray.size : Int) ≤ (n : Int) - m
  rw [List.size_toArray, List.length_take, sIx_le', sIx_le']
  omega
theorem cut_to_len {z : Str} {k : Int} (k0 : 0 ≤ k) : ((cutS z none (some k)).length : Int) ≤ k ∧ (k ≤ z.length → ((cutS z none (some k)).length : Int) = k) := by
  obtain ⟨n, rfl⟩ := Int.eq_ofNat_of_zero_le k0
  have e := congrArg List.length (cut_take z n)
  rw [List.length_take, len_tl, len_tl] at e
  omega
/-- one more name -/
theorem names_snoc {P : Str → Prop} {ys : List Str} {y : Str} {j : Nat} (h : ∀ y ∈ ys, P y) (hl : ys.length = j) (hy : P y) : (∀ z ∈ ys ++ [y], P z) ∧ (ys ++ [y]).length = j + 1 := by
  refine ⟨fun z hz => ?_, by rw [List.length_append, hl]; rfl⟩
  rcases List.mem_append.mp hz with q | q
  · exact h z q
  · rw [List.mem_singleton.mp q]
    exact hy
theorem radd_p {a b : Str} {H : Hp} {Q : VK} (hl : a.length + b.length ≤ 1000000) (s1 : LP P a) (s2 : LP P b) (k : ∀ y, y.length = a.length + b.length → LP P y → Q (.str y) H) : RAdd (.str a) (.str b) H Q := RAdd.str (small_ok hl) (k _ (len_app ..) (s1.app s2))
end
/-! ### split, list, tuple, pop -/
inductive RSplit : V → List V → Hp → VK → Prop
  | mk {z y : Str} {H : Hp} {Q : VK} : (y.length == 0) = false → z.length + 2 ≤ 1000000 → AlD (.lst ((Txt.split z y).map V.str)) H Q → RSplit (.str z) [.str y] H Q
theorem mt_splitU {X : Cx} : MtR X "str.split" RSplit := by
  intro pins s σ H x xs v us Q I rx rs h
  cases h with
  | mk h1 h2 q => exact mt_split pins s σ H _ _ v us Q I rx rs ⟨_, _, rfl, rfl, h1, small_ok h2, q⟩
inductive RListO : List V → Hp → VK → Prop
  | l {p : Addr} {xs : List V} {H : Hp} {Q : VK} : H p = some (.lst xs) → AlD (.lst xs) H Q → RListO [.ref p] H Q
  | t {p : Addr} {xs : List V} {H : Hp} {Q : VK} : H p = some (.tup xs) → AlD (.lst xs) H Q → RListO [.ref p] H Q
theorem call_listU {X : Cx} : CallR X (.type "list") RListO := by
  intro pins s σ H xs us Q I r h
  cases h with
  | l e q => exact call_list_of pins s σ H _ us Q I r ⟨_, _, rfl, .inl (SqL.of e), q⟩
  | t e q => exact call_list_of pins s σ H _ us Q I r ⟨_, _, rfl, .inr (SqT.of e), q⟩
inductive RTupO : List V → Hp → VK → Prop
  | l {p : Addr} {xs : List V} {H : Hp} {Q : VK} : H p = some (.lst xs) → AlD (.tup xs) H Q → RTupO [.ref p] H Q
/-! ### methods of lists that change -/
section
variable {K : PySem.W.Frag} {σ : L2.St} {H D : Hp} {R : Cells} {Q : VK} {p : Addr} {xs : List V} {v : V} {to : TE} {t : TA} {r : V → List V → Hp → VK → Prop} {T : String}
theorem se_bm (h : to σ H fun x H1 => tyV K T x H1 ∧ t σ H1 fun xs H2 => r x xs H2 Q) : tBM K T r to t σ H Q := h
theorem se_bm0 (h : to σ H fun x H1 => tyV K T x H1 ∧ r x [] H1 Q) : tBM0 K T r to σ H Q := h
theorem bm_ty {A : Prop} (e : H p = some (.lst xs)) (h : A) : tyV K "list" (.ref p) H ∧ A := ⟨.inl ⟨rfl, xs, SqL.of e⟩, h⟩
theorem app_now (hi : HI H ((p, .lst xs) :: R) D) (hl : xs.length < 1000000) (k : ∀ H', HI H' ((p, .lst (xs ++ [v])) :: R) D → Q .non H') : rAppend (.ref p) [v] H Q :=
  ⟨p, xs, v, rfl, rfl, hi.get (List.mem_cons_self ..), by rw [sizeLine_eq]; omega, k _ hi.set⟩
end
theorem call_tupU {X : Cx} : CallR X (.type "tuple") RTupO := by
  intro pins s σ H xs us Q I r h
  cases h with
  | l e q => exact call_tuple_of pins s σ H _ us Q I r ⟨_, _, rfl, .inl ⟨SqL.of e, q⟩⟩
theorem pop_now {H D : Hp} {R : Cells} {Q : VK} {p : Addr} {xs : List V} {i : Int} (hi : HI H ((p, .lst xs) :: R) D) (h0 : 0 ≤ i) (h1 : i < xs.length) (h2 : xs.length ≤ 1000000) (k : ∀ y H', xs[i.toNat]? = some y → HI H' ((p, .lst (xs.eraseIdx i.toNat)) :: R) D → Q y H') : rPopAt (.ref p) [.int i] H Q := by
  have e1 : ixN xs.length i = some i.toNat := by
    unfold ixN
    rw [if_pos h0, if_pos h1]
  have hn : i.toNat < xs.length := by omega
  exact ⟨p, xs, i, i.toNat, xs[i.toNat], rfl, rfl, hi.get (List.mem_cons_self ..), by omega, by omega, (ixN_seq e1).1, List.getElem?_eq_getElem hn, k _ _ (List.getElem?_eq_getElem hn) hi.set⟩
/-! ### while -/
def NW (I : Nat → L2.St → Cells → Hp → Prop) (m : Nat) : L2.St → Hp → Prop := fun σ' H' => ∃ m' R' D', m' < m ∧ HI H' R' D' ∧ I m' σ' R' D'
theorem while_hi {c : TT} {tb : TS} {Ds : Ends} {σ : L2.St} {H D0 : Hp} {R0 : Cells} {m : Nat} (I : Nat → L2.St → Cells → Hp → Prop) (hi : HI H R0 D0) (h0 : I m σ R0 D0)
    (hs : ∀ m σ R Dd H, HI H R Dd → I m σ R Dd → c σ H fun b H1 => if b = true then (∃ N : L2.St → Hp → Prop, (∀ σ' H', N σ' H' → ∃ m', m' < m ∧ ∃ R D, HI H' R D ∧ I m' σ' R D) ∧ tb { Ds with nx := N, ct := N, bk := Ds.nx } σ H1) else Ds.nx σ H1) : tWhile c tb Ds σ H :=
  ⟨fun m σ H => ∃ R D, HI H R D ∧ I m σ R D, ⟨m, R0, D0, hi, h0⟩, fun m σ H ⟨R, D, a, b⟩ => hs m σ R D H a b⟩
theorem wh_go {tb : TS} {Ds : Ends} {σ : L2.St} {H1 : Hp} {m : Nat} {I : Nat → L2.St → Cells → Hp → Prop} (h : tb { Ds with nx := NW I m, ct := NW I m, bk := Ds.nx } σ H1) :
    ∃ N : L2.St → Hp → Prop, (∀ σ' H', N σ' H' → ∃ m', m' < m ∧ ∃ R D, HI H' R D ∧ I m' σ' R D) ∧ tb { Ds with nx := N, ct := N, bk := Ds.nx } σ H1 :=
  ⟨NW I m, fun σ' H' ⟨m', R', D', a, b, c⟩ => ⟨m', a, R', D', b, c⟩, h⟩
/-! ### lists of ints -/
theorem ints_rep {H : Hp} : ∀ ks : List Int, RepL H (ks.map V.int) (ks.map PyData.int)
  | [] => .nil
  | k :: ks => .cons (.int k) (ints_rep ks)
theorem ints_dict : ∀ ks : List Int, PyData.hasDictAll (ks.map PyData.int) = false
  | [] => by simp [PyData.hasDictAll]
  | k :: ks => by
    have := ints_dict ks
    simp [PyData.hasDictAll, PyData.hasDict, this]
theorem ints_lay : ∀ ks : List Int, PyData.canLayAll0 (ks.map PyData.int) = true
  | [] => by simp [PyData.canLayAll0]
  | k :: ks => by
    have := ints_lay ks
    simp [PyData.canLayAll0, PyData.canLay0, this]
theorem ints_depth : ∀ ks : List Int, PyData.depthAll (ks.map PyData.int) = 0
  | [] => by simp [PyData.depthAll]
  | k :: ks => by
    have := ints_depth ks
    simp [PyData.depthAll, PyData.depth, this]
theorem rne_ints_nil {H : Hp} {Q : VK} {p q : Addr} {ks : List Int} (e1 : H p = some (.lst (ks.map V.int))) (e2 : H q = some (.lst [])) (g : Q (.bl (!ks.isEmpty)) H) : REq true (.ref p) (.ref q) H Q := by
  refine rne_dat (d := .list (ks.map PyData.int)) (e := .list []) (.lst e1 (ints_rep ks)) (.lst e2 .nil) (by simp [PyData.hasDict, ints_dict]) (by simp [PyData.hasDict, PyData.hasDictAll]) (by simp [SeqAt.shaped, PyData.canLay0, ints_lay, PyData.depth, ints_depth]) (by decide +kernel) ?_
  have e : PyData.eqv (.list (ks.map PyData.int)) (.list []) = ks.isEmpty := by cases ks <;> simp [PyData.eqv, PyData.eqvAll]
  rw [e]
  exact g
inductive RListM : List V → Hp → VK → Prop
  | l {p : Addr} {xs : List V} {H : Hp} {Q : VK} : H p = some (.lst xs) → AlM (.lst xs) H Q → RListM [.ref p] H Q
theorem call_listUM {X : Cx} : CallR X (.type "list") RListM := by
  intro pins s σ H xs us Q I r h
  cases h with
  | l e q => exact call_list_of pins s σ H _ us Q I r ⟨_, _, rfl, .inl (SqL.of e), q⟩
end Wk

set_option maxRecDepth 100000
set_option maxHeartbeats 4000000
/-! Things that may be lists that change (cells). -/
namespace Wk
open PySem PySem.Spec PyProof.Rows L2
/-- a drawn thing, or a list that changes -/
def Mt (K : PySem.W.Frag) (R : Cells) (D : Hp) (v : V) : Prop := Th K D v ∨ ∃ p xs, v = .ref p ∧ ((p, HO.lst xs) : Addr × HO) ∈ R
section
variable {K : PySem.W.Frag} {R R' : Cells} {D D' H : Hp} {v : V} {c : Addr × HO}
theorem Th.m (h : Th K D v) : Mt K R D v := .inl h
theorem Mt.at {p : Addr} {xs : List V} (h : ((p, HO.lst xs) : Addr × HO) ∈ R) : Mt K R D (.ref p) := .inr ⟨p, xs, rfl, h⟩
theorem Mt.mono (h : Mt K R D v) (x : Ex D D') : Mt K R D' v := by
  rcases h with h | h
  · exact .inl (h.mono x)
  · exact .inr h
theorem Mt.cell (h : Mt K R D v) : Mt K (c :: R) D v := by
  rcases h with h | ⟨p, xs, e, m⟩
  · exact .inl h
  · exact .inr ⟨p, xs, e, List.mem_cons_of_mem _ m⟩
theorem Mt.sub (h : Mt K R D v) (s : ∀ q ∈ R, q ∈ R') : Mt K R' D v := by
  rcases h with h | ⟨p, xs, e, m⟩
  · exact .inl h
  · exact .inr ⟨p, xs, e, s _ m⟩
theorem Mt.kn (h : Mt K R D v) (hI : HI H R D) : (∃ k, Kn K H v k) ∧ ∀ z, v = .str z → TxtOk z := by
  rcases h with h | ⟨p, xs, rfl, m⟩
  · obtain ⟨⟨k, kn⟩, q⟩ := h
    exact ⟨⟨k, hI.kn kn⟩, q⟩
  · exact ⟨⟨.lst, .lst (hI.get m)⟩, fun z e => by cases e⟩
end
theorem rin_lst {x : V} {p : Addr} {xs : List V} {H : Hp} {Q : VK} (e : H p = some (.lst xs)) (f : flatV x = true) (g : xs.all flatV = true) (q : Q (.bl (inV x xs)) H) : RIn false x (.ref p) H Q := .lst e f g q
theorem rni_lst {x : V} {p : Addr} {xs : List V} {H : Hp} {Q : VK} (e : H p = some (.lst xs)) (f : flatV x = true) (g : xs.all flatV = true) (q : Q (.bl (!inV x xs)) H) : RIn true x (.ref p) H Q := .lst e f g q
/-! ### split to a list that changes, zfill, reverse -/
inductive RSplitM : V → List V → Hp → VK → Prop
  | mk {z y : Str} {H : Hp} {Q : VK} : (y.length == 0) = false → z.length + 2 ≤ 1000000 → AlM (.lst ((Txt.split z y).map V.str)) H Q → RSplitM (.str z) [.str y] H Q
theorem mt_splitUM {X : Cx} : MtR X "str.split" RSplitM := by
  intro pins s σ H x xs v us Q I rx rs h
  cases h with
  | mk h1 h2 q => exact mt_split pins s σ H _ _ v us Q I rx rs ⟨_, _, rfl, rfl, h1, small_ok h2, q⟩
inductive RZfill : V → List V → Hp → VK → Prop
  | mk {z : Str} {i : Int} {H : Hp} {Q : VK} : PadOk i = true → Q (.str (Txt.zfill z i)) H → RZfill (.str z) [.int i] H Q
theorem mt_zfillU {X : Cx} : MtR X "str.zfill" RZfill := by
  intro pins s σ H x xs v us Q I rx rs h
  cases h with
  | mk h1 q => exact mt_zfill pins s σ H _ _ v us Q I rx rs ⟨_, _, rfl, rfl, h1, q⟩
theorem rev_now {H D : Hp} {R : Cells} {Q : VK} {p : Addr} {xs : List V} (hi : HI H ((p, .lst xs) :: R) D) (k : ∀ H', HI H' ((p, .lst xs.reverse) :: R) D → Q .non H') : rReverse (.ref p) [] H Q := ⟨p, xs, rfl, rfl, hi.get (List.mem_cons_self ..), k _ hi.set⟩
end Wk

set_option maxRecDepth 100000
set_option maxHeartbeats 4000000
namespace Wk
open PySem PySem.Spec PyProof.Rows L2
local macro_rules | `(tactic| walk_at "mem") => `(tactic| first
  | exact List.mem_cons_self ..
  | exact List.mem_cons_of_mem _ (List.mem_cons_self ..)
  | exact List.mem_cons_of_mem _ (List.mem_cons_of_mem _ (List.mem_cons_self ..))
  | exact List.mem_cons_of_mem _ (List.mem_cons_of_mem _ (List.mem_cons_of_mem _ (List.mem_cons_self ..)))
  | exact List.mem_cons_of_mem _ (List.mem_cons_of_mem _ (List.mem_cons_of_mem _ (List.mem_cons_of_mem _ (List.mem_cons_self ..)))))
local macro_rules | `(tactic| walk_at "dat") => `(tactic| first
  | assumption
  | (refine Ex.of ?_ (by assumption); walk_at "dat"))
local macro_rules | `(tactic| walk_at "ex") => `(tactic| first
  | assumption
  | exact Ex.refl _
  | (refine Ex.trans ?_ (by assumption); walk_at "ex"))
local macro_rules | `(tactic| walk_at "hp") => `(tactic| first
  | assumption
  | exact HI.get (by assumption) (by walk_at "mem")
  | exact HI.dat (by assumption) (by walk_at "dat"))
local macro_rules | `(tactic| walk_at "hi") => `(tactic| first
  | assumption
  | exact HI.swap (by assumption)
  | exact HI.up2 (by assumption)
  | exact HI.up3 (by assumption))
local macro_rules | `(tactic| walk_at "num") => `(tactic| first
  | omega
  | decide
  | exact ⟨by decide, by decide⟩
  | exact cdiv_of (by omega) (by omega)
  | exact ⟨by omega, by omega⟩
  | (refine ⟨by omega, by omega, ?_⟩; omega)
  | exact Or.inl ⟨by omega, by omega⟩
  | exact Or.inr ⟨by omega, by omega⟩)
local macro_rules | `(tactic| walk_at "kn") => `(tactic| first
  | assumption
  | exact Kn.int _
  | exact Kn.str _
  | exact Kn.bl _
  | exact Kn.non
  | exact HI.kn (by assumption) (by assumption)
  | exact HI.kn (by assumption) (Kn.mono (by assumption) (by assumption))
  | exact Kn.lst (by walk_at "hp")
  | exact Kn.tup (by walk_at "hp")
  | exact Kn.dict (by walk_at "hp"))
local macro_rules | `(tactic| walk_at "s1") => `(tactic| first
  | with_reducible refine st_seq ?_
  | with_reducible refine st_asg ?_
  | with_reducible refine st_ret ?_
  | with_reducible refine st_if ?_
  | with_reducible refine st_drop ?_
  | with_reducible refine st_next ?_
  | with_reducible refine st_brk ?_
  | with_reducible refine st_cont ?_
  | with_reducible refine sg_name ?_
  | with_reducible refine sg_sub ?_
  | with_reducible refine sg_nil ?_
  | with_reducible refine sg_cons ?_
  | ((with_reducible refine' sg_tup ?e1 ?e2 ?_); (case e1 => exact SqT.of (by walk_at "hp")); (case e2 => rfl))
  | ((with_reducible refine' se_var ?e1 ?_); (case e1 => rfl))
  | with_reducible refine se_c ?_
  | with_reducible refine se_op ?_
  | with_reducible refine se_un ?_
  | with_reducible refine se_tup ?_
  | with_reducible refine se_lst ?_
  | with_reducible refine se_lstM ?_
  | with_reducible refine st_for ?_
  | with_reducible refine se_lc ?_
  | with_reducible refine it_rng1 ?_
  | with_reducible refine it_rng2 ?_
  | with_reducible refine it_list ?_
  | with_reducible refine it_str ?_
  | with_reducible refine strI_mk ?_
  | ((with_reducible refine' list_mk ?e1 ?_); (case e1 => walk_at "hp"))
  | ((with_reducible refine' rng1_mk ?e1 ?e2 ?_); (case e1 => omega); (case e2 => omega))
  | ((with_reducible refine' rng2_mk ?e1 ?_); (case e1 => omega))
  | with_reducible refine st_yes ?_
  | ((with_reducible refine' al_D ?e1 ?_); (case e1 => assumption); intro _ _ _ _ _ _)
  | ((with_reducible refine' al_M ?e1 ?_); (case e1 => assumption); intro _ _ _)
  | ((with_reducible refine' and_on ?e1 ?_); (case e1 => first | exact small_ok (Nat.le_of_ble_eq_true rfl) | rfl | omega))
  | with_reducible refine sa_nil ?_
  | with_reducible refine sa_cons ?_
  | with_reducible refine se_cb ?_
  | with_reducible refine se_if ?_
  | with_reducible refine st_test ?_
  | with_reducible refine st_B ?_
  | with_reducible refine st_bl ?_
  | with_reducible refine st_and ?_
  | with_reducible refine st_or ?_
  | with_reducible refine st_not ?_
  | with_reducible refine ri0_mk ?_
  | with_reducible refine ru_mk ?_
  | ((with_reducible refine' ri_mk ?e1 ?_); (case e1 => walk_at "num"))
  | with_reducible refine RAdd.int ?_
  | ((with_reducible refine' RMul.int ?e1 ?_); (case e1 => walk_at "num"))
  | with_reducible refine req_int ?_
  | with_reducible refine rne_int ?_
  | with_reducible refine req_str ?_
  | with_reducible refine rne_str ?_
  | ((with_reducible refine' RIx.l ?e1 ?e2 ?_); (case e1 => walk_at "hp"); (case e2 => rfl))
  | ((with_reducible refine' set_c ?e1 ?e2 ?_); (case e1 => assumption); (case e2 => rfl); intro _ _)
  | ((with_reducible refine' set_c2 ?e1 ?e2 ?_); (case e1 => assumption); (case e2 => rfl); intro _ _)
  | ((with_reducible refine' set_c3 ?e1 ?e2 ?_); (case e1 => assumption); (case e2 => rfl); intro _ _)
  | with_reducible refine iteT ?_
  | with_reducible refine iteF ?_
  | ((with_reducible refine' if_yes ?e1 ?_); (case e1 => omega))
  | ((with_reducible refine' if_no ?e1 ?_); (case e1 => omega))
  | ((with_reducible refine' if_yesN ?e1 ?_); (case e1 => omega))
  | ((with_reducible refine' if_noN ?e1 ?_); (case e1 => omega))
  | ((with_reducible refine' RIx.t ?e1 ?e2 ?_); (case e1 => walk_at "hp"); (case e2 => rfl))
  | with_reducible refine se_andV ?_
  | with_reducible refine se_orV ?_
  | with_reducible refine se_notV ?_
  | with_reducible refine se_chain ?_
  | with_reducible refine se_sl ?_
  | with_reducible refine so_none ?_
  | with_reducible refine so_some ?_
  | with_reducible refine so_int ?_
  | with_reducible refine se_m1 ?_
  | with_reducible refine se_m0 ?_
  | with_reducible refine m_str ?_
  | with_reducible refine se_mkE ?_
  | ((with_reducible refine' mkE_now ?e1 ?_); (case e1 => assumption); intro _ _ _ _ _ _ _ _)
  | with_reducible refine st_raiseX ?_
  | ((with_reducible refine' mkX_now ?e1 ?_); (case e1 => assumption); intro _ _ _ _ _ _)
  | with_reducible refine st_par ?_
  | with_reducible refine par_mk ?_
  | ((with_reducible refine' st_aug ?e1 ?_); (case e1 => rfl))
  | ((with_reducible refine' RIsi.ty ?e1 ?e2 ?_); (case e1 => walk_at "kn"); (case e2 => decide))
  | with_reducible refine ris_non ?_
  | with_reducible refine ris_nonN ?_
  | with_reducible refine ris_bl ?_
  | with_reducible refine ris_blN ?_
  | with_reducible refine rin_sign ?_
  | with_reducible refine rni_sign ?_
  | ((with_reducible refine' RLen.str ?e1 ?_); (case e1 => first | exact small_ok (by omega) | exact small_ok (Nat.le_of_ble_eq_true rfl)))
  | ((with_reducible refine' RLen.lst ?e1 ?_); (case e1 => walk_at "hp"))
  | ((with_reducible refine' RLen.frz ?e1 ?_); (case e1 => walk_at "hp"))
  | ((with_reducible refine' RLen.tup ?e1 ?_); (case e1 => walk_at "hp"))
  | (with_reducible refine RMx.mk ?_; intro _ _ _ _)
  | (with_reducible refine RMn.mk ?_; intro _ _ _ _)
  | with_reducible refine RStarts.mk ?_
  | with_reducible refine RFind.mk ?_
  | with_reducible refine RInt.bl ?_
  | ((with_reducible refine' RAll.mk ?e1 ?_); (case e1 => walk_at "hp")))
local macro_rules | `(tactic| walk_at "sx") => `(tactic| repeat (walk_at "s1"; try dsimp only [List.set, Int.reduceToNat]))
local macro_rules | `(tactic| walk_at "go") => `(tactic| (dsimp only [cxOf, L2.start, List.map, List.length, List.replicate, Nat.reduceAdd, Nat.reduceSub, List.replicate, HAppend.hAppend, Append.append, List.append]; walk_at "sx"))
local macro_rules | `(tactic| walk_at "sxm") => `(tactic| repeat (first | ((with_reducible refine' mod_let ?e1 ?_); (case e1 => omega); intro _ _ _) | walk_at "s1"; try dsimp only [List.set, Int.reduceToNat]))
local macro_rules | `(tactic| walk_at "go0") => `(tactic| dsimp only [cxOf, L2.start, List.map, List.length, List.replicate, Nat.reduceAdd, Nat.reduceSub, List.replicate, HAppend.hAppend, Append.append, List.append])

local macro_rules | `(tactic| walk_at "s2") => `(tactic| first
  | walk_at "s1"
  | with_reducible refine se_call1 ?_
  | with_reducible refine se_callN ?_
  | with_reducible refine se_dnewK ?_
  | ((with_reducible refine' se_disp ?e1 ?_); (case e1 => assumption); intro _ _ _)
  | with_reducible refine sp_cons ?_
  | with_reducible refine sp_nil ?_
  | ((with_reducible refine' disp_now ?e1 ?e2 ?e3 ?_); (case e1 => assumption); (case e2 => rfl); (case e3 => exact Nat.le_of_ble_eq_true rfl); intro _ _ _ _ _)
  | ((with_reducible refine' RAdd.lst ?e1 ?e2 ?e3 ?_); (case e1 => walk_at "hp"); (case e2 => walk_at "hp"); (case e3 => exact small_ok (Nat.le_of_ble_eq_true rfl)))
  | ((with_reducible refine' RMul.lst ?e1 ?e2 ?e3 ?e4 ?_); (case e1 => walk_at "hp"); (case e2 => omega); (case e3 => omega); (case e4 => exact small_ok (Nat.le_of_ble_eq_true rfl)))
  | ((with_reducible refine' RStr.int ?e1 ?_); (case e1 => exact log2_small (by omega)))
  | ((with_reducible refine' RSl.str ?e1 ?_); (case e1 => first | exact small_ok (by omega) | exact small_ok (Nat.le_of_ble_eq_true rfl)))
  | ((with_reducible refine' RAdd.str ?e1 ?_); (case e1 => exact small_ok (by omega)))
  | ((with_reducible refine' take_now ?e1 ?e2 ?e3 ?e4 ?e5 ?_); (case e1 => walk_at "hi"); (case e2 => omega); (case e3 => omega); (case e4 => assumption); (case e5 => omega); intro _ _ _ _ _ _ _ _ _))
local macro_rules | `(tactic| walk_at "sy") => `(tactic| repeat (walk_at "s2"; try dsimp only [List.set, Int.reduceToNat]))
local macro_rules | `(tactic| walk_at "sz1") => `(tactic| first
  | ((with_reducible refine' rsl_some ?e1 ?e2 ?_); (case e1 => omega); (case e2 => assumption); intro _ _ _)
  | ((with_reducible refine' radd_some ?e1 ?e2 ?e3 ?_); (case e1 => omega); (case e2 => assumption); (case e3 => assumption); intro _ _ _)
  | ((with_reducible refine' rmul_some ?e1 ?e3 ?e4 ?e5 ?_); (case e1 => rfl); (case e3 => omega); (case e4 => omega); (case e5 => exact sg_of rfl); intro _ _ _)
  | walk_at "s2")
local macro_rules | `(tactic| walk_at "sz") => `(tactic| repeat (walk_at "sz1"; try dsimp only [List.set, Int.reduceToNat]))

def wholeB : V → Int → Int → Bool
  | .int i, lo, hi => decide (lo ≤ i) && decide (i ≤ hi)
  | _, _, _ => false
def spWhole (K : PySem.W.Frag) : Sp := fun vs H Q _ => ∃ (v : V) (lo hi : Int) (R : Cells) (D : Hp), vs = [v, .int lo, .int hi] ∧ HI H R D ∧ Mt K R D v ∧ ∀ H', HI H' R D → Q (.bl (wholeB v lo hi)) H'
set_option maxHeartbeats 400000 in
theorem ok_is_whole {P : Program} {w : World} {K : PySem.W.Frag} {mg : Str → Option Value} {base : Heap} (T : Tx K mg) : FnG P w K mg base 1 (a_is_whole K) ["thing", "low", "high"] (spWhole K) := by
  refine T.f_is_whole.ok sc_is_whole (fun vs H Q E h => ?_) (fun cdv A outer s H vs Q E hgu hr h => ⟨_, (pss_one (ps_ret (pe_and (pe_callB (show CallR _ (.builtin "isinstance") (RIsi K) from call_isiU) (by rfl) T.n_isinstance boot_isinstance (pa_cons (pv 0) (pa_cons (pe_bltn (v := .ty "int") (by rfl) T.n_int boot_int rfl) pa_nil))) (pe_and (pe_not (pe_callB (show CallR _ (.builtin "isinstance") (RIsi K) from call_isiU) (by rfl) T.n_isinstance boot_isinstance (pa_cons (pv 0) (pa_cons (pe_bltn (v := .ty "bool") (by rfl) T.n_bool boot_bool rfl) pa_nil)))) (pe_one (pe_chain op_le op_le (pv 1) (pv 0) (pv 2))))))), ?_⟩)
  · obtain ⟨v, lo, hi, R, D, rfl, _⟩ := h
    rfl
  · obtain ⟨v, lo, hi, R, D, rfl, hI, mt, go⟩ := h
    obtain ⟨⟨k, kn⟩, _⟩ := mt.kn hI
    walk_at "go"
    rcases kn.told with ⟨rfl, rfl⟩ | ⟨b, rfl, rfl⟩ | ⟨i, rfl, rfl⟩ | ⟨z, rfl, rfl⟩ | ⟨a, rfl, hk⟩
    · exact go _ (by assumption)
    · refine iteT ?_
      walk_at "sx"
      refine iteF ?_
      exact go _ (by assumption)
    · refine iteT ?_
      walk_at "sx"
      refine iteT ?_
      walk_at "sx"
      have g : Q (.bl (decide (lo ≤ i) && decide (i ≤ hi))) H := go _ (by assumption)
      refine if_dec (fun h => ?_) (fun h => ?_)
      · walk_at "sx"
        rw [decide_eq_true h, Bool.true_and] at g
        exact g
      · rw [decide_eq_false h, Bool.false_and] at g
        exact g
    · exact go _ (by assumption)
    · have g := go _ (by assumption)
      rcases hk with rfl | rfl | rfl | rfl <;> exact g
theorem whole_use {K : PySem.W.Frag} {v : V} {lo hi : Int} {R : Cells} {D H : Hp} {Q : VK} {E : XK} (h : HI H R D) (mt : Mt K R D v) (q : ∀ H', HI H' R D → Q (.bl (wholeB v lo hi)) H') : spWhole K [v, .int lo, .int hi] H Q E := ⟨v, lo, hi, R, D, rfl, h, mt, q⟩
theorem whole_is {v : V} {lo hi : Int} (h : wholeB v lo hi = true) : ∃ i, v = .int i ∧ lo ≤ i ∧ i ≤ hi := by
  cases v with
  | int i =>
    obtain ⟨a, b⟩ := He.ba (show (decide (lo ≤ i) && decide (i ≤ hi)) = true from h)
    exact ⟨i, rfl, of_decide_eq_true a, of_decide_eq_true b⟩
  | _ => cases h
theorem whole_ok {i lo hi : Int} (h0 : lo ≤ i) (h1 : i ≤ hi) : wholeB (.int i) lo hi = true := by
  show (decide (lo ≤ i) && decide (i ≤ hi)) = true
  rw [decide_eq_true h0, decide_eq_true h1]
  rfl
end Wk

set_option maxRecDepth 100000
set_option maxHeartbeats 4000000
namespace Wk
open PySem PySem.Spec PyProof.Rows L2
local macro_rules | `(tactic| walk_at "mem") => `(tactic| first
  | exact List.mem_cons_self ..
  | exact List.mem_cons_of_mem _ (List.mem_cons_self ..)
  | exact List.mem_cons_of_mem _ (List.mem_cons_of_mem _ (List.mem_cons_self ..))
  | exact List.mem_cons_of_mem _ (List.mem_cons_of_mem _ (List.mem_cons_of_mem _ (List.mem_cons_self ..)))
  | exact List.mem_cons_of_mem _ (List.mem_cons_of_mem _ (List.mem_cons_of_mem _ (List.mem_cons_of_mem _ (List.mem_cons_self ..)))))
local macro_rules | `(tactic| walk_at "dat") => `(tactic| first
  | assumption
  | (refine Ex.of ?_ (by assumption); walk_at "dat"))
local macro_rules | `(tactic| walk_at "ex") => `(tactic| first
  | assumption
  | exact Ex.refl _
  | (refine Ex.trans ?_ (by assumption); walk_at "ex"))
local macro_rules | `(tactic| walk_at "hp") => `(tactic| first
  | assumption
  | exact HI.get (by assumption) (by walk_at "mem")
  | exact HI.dat (by assumption) (by walk_at "dat"))
local macro_rules | `(tactic| walk_at "hi") => `(tactic| first
  | assumption
  | exact HI.swap (by assumption)
  | exact HI.up2 (by assumption)
  | exact HI.up3 (by assumption))
local macro_rules | `(tactic| walk_at "num") => `(tactic| first
  | omega
  | decide
  | exact ⟨by decide, by decide⟩
  | exact cdiv_of (by omega) (by omega)
  | exact ⟨by omega, by omega⟩
  | (refine ⟨by omega, by omega, ?_⟩; omega)
  | exact Or.inl ⟨by omega, by omega⟩
  | exact Or.inr ⟨by omega, by omega⟩)
local macro_rules | `(tactic| walk_at "kn") => `(tactic| first
  | assumption
  | exact Kn.int _
  | exact Kn.str _
  | exact Kn.bl _
  | exact Kn.non
  | exact HI.kn (by assumption) (by assumption)
  | exact HI.kn (by assumption) (Kn.mono (by assumption) (by assumption))
  | exact Kn.lst (by walk_at "hp")
  | exact Kn.tup (by walk_at "hp")
  | exact Kn.dict (by walk_at "hp"))
local macro_rules | `(tactic| walk_at "s1") => `(tactic| first
  | with_reducible refine st_seq ?_
  | with_reducible refine st_asg ?_
  | with_reducible refine st_ret ?_
  | with_reducible refine st_if ?_
  | with_reducible refine st_drop ?_
  | with_reducible refine st_next ?_
  | with_reducible refine st_brk ?_
  | with_reducible refine st_cont ?_
  | with_reducible refine sg_name ?_
  | with_reducible refine sg_sub ?_
  | with_reducible refine sg_nil ?_
  | with_reducible refine sg_cons ?_
  | ((with_reducible refine' sg_tup ?e1 ?e2 ?_); (case e1 => exact SqT.of (by walk_at "hp")); (case e2 => rfl))
  | ((with_reducible refine' se_var ?e1 ?_); (case e1 => rfl))
  | with_reducible refine se_c ?_
  | with_reducible refine se_op ?_
  | with_reducible refine se_un ?_
  | with_reducible refine se_tup ?_
  | with_reducible refine se_lst ?_
  | with_reducible refine se_lstM ?_
  | with_reducible refine st_for ?_
  | with_reducible refine se_lc ?_
  | with_reducible refine it_rng1 ?_
  | with_reducible refine it_rng2 ?_
  | with_reducible refine it_list ?_
  | with_reducible refine it_str ?_
  | with_reducible refine strI_mk ?_
  | ((with_reducible refine' list_mk ?e1 ?_); (case e1 => walk_at "hp"))
  | ((with_reducible refine' rng1_mk ?e1 ?e2 ?_); (case e1 => omega); (case e2 => omega))
  | ((with_reducible refine' rng2_mk ?e1 ?_); (case e1 => omega))
  | with_reducible refine st_yes ?_
  | ((with_reducible refine' al_D ?e1 ?_); (case e1 => assumption); intro _ _ _ _ _ _)
  | ((with_reducible refine' al_M ?e1 ?_); (case e1 => assumption); intro _ _ _)
  | ((with_reducible refine' and_on ?e1 ?_); (case e1 => first | exact small_ok (Nat.le_of_ble_eq_true rfl) | rfl | omega))
  | with_reducible refine sa_nil ?_
  | with_reducible refine sa_cons ?_
  | with_reducible refine se_cb ?_
  | with_reducible refine se_if ?_
  | with_reducible refine st_test ?_
  | with_reducible refine st_B ?_
  | with_reducible refine st_bl ?_
  | with_reducible refine st_and ?_
  | with_reducible refine st_or ?_
  | with_reducible refine st_not ?_
  | with_reducible refine ri0_mk ?_
  | with_reducible refine ru_mk ?_
  | ((with_reducible refine' ri_mk ?e1 ?_); (case e1 => walk_at "num"))
  | with_reducible refine RAdd.int ?_
  | ((with_reducible refine' RMul.int ?e1 ?_); (case e1 => walk_at "num"))
  | with_reducible refine req_int ?_
  | with_reducible refine rne_int ?_
  | with_reducible refine req_str ?_
  | with_reducible refine rne_str ?_
  | ((with_reducible refine' RIx.l ?e1 ?e2 ?_); (case e1 => walk_at "hp"); (case e2 => rfl))
  | ((with_reducible refine' set_c ?e1 ?e2 ?_); (case e1 => assumption); (case e2 => rfl); intro _ _)
  | ((with_reducible refine' set_c2 ?e1 ?e2 ?_); (case e1 => assumption); (case e2 => rfl); intro _ _)
  | ((with_reducible refine' set_c3 ?e1 ?e2 ?_); (case e1 => assumption); (case e2 => rfl); intro _ _)
  | with_reducible refine iteT ?_
  | with_reducible refine iteF ?_
  | ((with_reducible refine' if_yes ?e1 ?_); (case e1 => omega))
  | ((with_reducible refine' if_no ?e1 ?_); (case e1 => omega))
  | ((with_reducible refine' if_yesN ?e1 ?_); (case e1 => omega))
  | ((with_reducible refine' if_noN ?e1 ?_); (case e1 => omega))
  | ((with_reducible refine' RIx.t ?e1 ?e2 ?_); (case e1 => walk_at "hp"); (case e2 => rfl))
  | with_reducible refine se_andV ?_
  | with_reducible refine se_orV ?_
  | with_reducible refine se_notV ?_
  | with_reducible refine se_chain ?_
  | with_reducible refine se_sl ?_
  | with_reducible refine so_none ?_
  | with_reducible refine so_some ?_
  | with_reducible refine so_int ?_
  | with_reducible refine se_m1 ?_
  | with_reducible refine se_m0 ?_
  | with_reducible refine m_str ?_
  | with_reducible refine se_mkE ?_
  | ((with_reducible refine' mkE_now ?e1 ?_); (case e1 => assumption); intro _ _ _ _ _ _ _ _)
  | with_reducible refine st_raiseX ?_
  | ((with_reducible refine' mkX_now ?e1 ?_); (case e1 => assumption); intro _ _ _ _ _ _)
  | with_reducible refine st_par ?_
  | with_reducible refine par_mk ?_
  | ((with_reducible refine' st_aug ?e1 ?_); (case e1 => rfl))
  | ((with_reducible refine' RIsi.ty ?e1 ?e2 ?_); (case e1 => walk_at "kn"); (case e2 => decide))
  | with_reducible refine ris_non ?_
  | with_reducible refine ris_nonN ?_
  | with_reducible refine ris_bl ?_
  | with_reducible refine ris_blN ?_
  | with_reducible refine rin_sign ?_
  | with_reducible refine rni_sign ?_
  | ((with_reducible refine' RLen.str ?e1 ?_); (case e1 => first | exact small_ok (by omega) | exact small_ok (Nat.le_of_ble_eq_true rfl)))
  | ((with_reducible refine' RLen.lst ?e1 ?_); (case e1 => walk_at "hp"))
  | ((with_reducible refine' RLen.frz ?e1 ?_); (case e1 => walk_at "hp"))
  | ((with_reducible refine' RLen.tup ?e1 ?_); (case e1 => walk_at "hp"))
  | (with_reducible refine RMx.mk ?_; intro _ _ _ _)
  | (with_reducible refine RMn.mk ?_; intro _ _ _ _)
  | with_reducible refine RStarts.mk ?_
  | with_reducible refine RFind.mk ?_
  | with_reducible refine RInt.bl ?_
  | ((with_reducible refine' RAll.mk ?e1 ?_); (case e1 => walk_at "hp")))
local macro_rules | `(tactic| walk_at "sx") => `(tactic| repeat (walk_at "s1"; try dsimp only [List.set, Int.reduceToNat]))
local macro_rules | `(tactic| walk_at "go") => `(tactic| (dsimp only [cxOf, L2.start, List.map, List.length, List.replicate, Nat.reduceAdd, Nat.reduceSub, List.replicate, HAppend.hAppend, Append.append, List.append]; walk_at "sx"))
local macro_rules | `(tactic| walk_at "sxm") => `(tactic| repeat (first | ((with_reducible refine' mod_let ?e1 ?_); (case e1 => omega); intro _ _ _) | walk_at "s1"; try dsimp only [List.set, Int.reduceToNat]))
local macro_rules | `(tactic| walk_at "go0") => `(tactic| dsimp only [cxOf, L2.start, List.map, List.length, List.replicate, Nat.reduceAdd, Nat.reduceSub, List.replicate, HAppend.hAppend, Append.append, List.append])

local macro_rules | `(tactic| walk_at "s2") => `(tactic| first
  | walk_at "s1"
  | with_reducible refine se_call1 ?_
  | with_reducible refine se_callN ?_
  | with_reducible refine se_dnewK ?_
  | ((with_reducible refine' se_disp ?e1 ?_); (case e1 => assumption); intro _ _ _)
  | with_reducible refine sp_cons ?_
  | with_reducible refine sp_nil ?_
  | ((with_reducible refine' disp_now ?e1 ?e2 ?e3 ?_); (case e1 => assumption); (case e2 => rfl); (case e3 => exact Nat.le_of_ble_eq_true rfl); intro _ _ _ _ _)
  | ((with_reducible refine' RAdd.lst ?e1 ?e2 ?e3 ?_); (case e1 => walk_at "hp"); (case e2 => walk_at "hp"); (case e3 => exact small_ok (Nat.le_of_ble_eq_true rfl)))
  | ((with_reducible refine' RMul.lst ?e1 ?e2 ?e3 ?e4 ?_); (case e1 => walk_at "hp"); (case e2 => omega); (case e3 => omega); (case e4 => exact small_ok (Nat.le_of_ble_eq_true rfl)))
  | ((with_reducible refine' RStr.int ?e1 ?_); (case e1 => exact log2_small (by omega)))
  | ((with_reducible refine' RSl.str ?e1 ?_); (case e1 => first | exact small_ok (by omega) | exact small_ok (Nat.le_of_ble_eq_true rfl)))
  | ((with_reducible refine' RAdd.str ?e1 ?_); (case e1 => exact small_ok (by omega)))
  | ((with_reducible refine' take_now ?e1 ?e2 ?e3 ?e4 ?e5 ?_); (case e1 => walk_at "hi"); (case e2 => omega); (case e3 => omega); (case e4 => assumption); (case e5 => omega); intro _ _ _ _ _ _ _ _ _))
local macro_rules | `(tactic| walk_at "sy") => `(tactic| repeat (walk_at "s2"; try dsimp only [List.set, Int.reduceToNat]))
local macro_rules | `(tactic| walk_at "sz1") => `(tactic| first
  | ((with_reducible refine' rsl_some ?e1 ?e2 ?_); (case e1 => omega); (case e2 => assumption); intro _ _ _)
  | ((with_reducible refine' radd_some ?e1 ?e2 ?e3 ?_); (case e1 => omega); (case e2 => assumption); (case e3 => assumption); intro _ _ _)
  | ((with_reducible refine' rmul_some ?e1 ?e3 ?e4 ?e5 ?_); (case e1 => rfl); (case e3 => omega); (case e4 => omega); (case e5 => exact sg_of rfl); intro _ _ _)
  | walk_at "s2")
local macro_rules | `(tactic| walk_at "sz") => `(tactic| repeat (walk_at "sz1"; try dsimp only [List.set, Int.reduceToNat]))

local macro_rules | `(tactic| walk_at "s3") => `(tactic| first
  | walk_at "s2"
  | with_reducible refine se_fld ?_
  | with_reducible refine st_fld ?_
  | ((with_reducible refine' fld_mk ?e1 ?e2 ?e3 ?e4 ?_); (case e1 => walk_at "hp"); (case e2 => assumption); (case e3 => walk_at "mem"); (case e4 => rfl))
  | ((with_reducible refine' sfld_now ?e1 ?e2 ?e3 ?e4 ?_); (case e1 => walk_at "hi"); (case e2 => assumption); (case e3 => walk_at "mem"); (case e4 => exact Nat.lt_of_lt_of_le (Nat.lt_succ_self _) (Nat.le_of_ble_eq_true rfl)); intro _ _)
  | with_reducible refine se_meth ?_
  | with_reducible refine se_methN ?_
  | ((with_reducible refine' meth_mk ?e1 ?e2 ?_); (case e1 => walk_at "hp"); (case e2 => rfl))
  | with_reducible refine se_make ?_
  | with_reducible refine se_makeN ?_
  | ((with_reducible refine' make_now ?e1 ?_); (case e1 => assumption); intro _ _ _ _)
  | with_reducible refine se_fmt ?_
  | ((with_reducible refine' RFmt.str ?e1 ?_); (case e1 => omega))
  | ((with_reducible refine' RFmt.int ?e1 ?_); (case e1 => exact log2_small (by omega)))
  | with_reducible refine sj_nil ?_
  | with_reducible refine sj_cons ?_
  | ((with_reducible refine' js_mk ?e1 ?_); (case e1 => omega))
  | ((with_reducible refine' and_on ?e1 ?_); (case e1 => exact small_ok (by simp only [len_app]; omega))))
local macro_rules | `(tactic| walk_at "sc") => `(tactic| repeat (walk_at "s3"; try dsimp only [List.set, Int.reduceToNat]))

local macro_rules | `(tactic| walk_at "s4") => `(tactic| first
  | walk_at "s3"
  | with_reducible refine se_bm ?_
  | with_reducible refine se_bm0 ?_
  | ((with_reducible refine' bm_ty ?e1 ?_); (case e1 => walk_at "hp"))
  | ((with_reducible refine' app_now ?e1 ?e2 ?_); (case e1 => walk_at "hi"); (case e2 => first | omega | exact Nat.lt_of_lt_of_le (Nat.lt_succ_self _) (Nat.le_of_ble_eq_true rfl)); intro _ _))
local macro_rules | `(tactic| walk_at "sd") => `(tactic| repeat (walk_at "s4"; try dsimp only [List.set, Int.reduceToNat]))

local macro_rules | `(tactic| walk_at "s5") => `(tactic| first
  | with_reducible refine rne_same ?_
  | with_reducible refine req_same ?_
  | walk_at "s4"
  | ((with_reducible refine' if_kT ?e1 ?_); (case e1 => first | assumption | rfl))
  | ((with_reducible refine' if_kF ?e1 ?_); (case e1 => first | assumption | rfl))
  | ((with_reducible refine' if_nkT ?e1 ?_); (case e1 => first | assumption | rfl))
  | ((with_reducible refine' if_nkF ?e1 ?_); (case e1 => first | assumption | rfl))
  | ((with_reducible refine' if_tagF ?e1 ?_); (case e1 => rfl))
  | ((with_reducible refine' if_tagN ?e1 ?_); (case e1 => rfl))
  | ((with_reducible refine' if_yes ?e1 ?_); (case e1 => with_reducible rfl))
  | ((with_reducible refine' if_yesN ?e1 ?_); (case e1 => with_reducible rfl))
  | with_reducible refine if_notT ?_
  | with_reducible refine if_notF ?_
  | with_reducible refine it_zip ?_
  | with_reducible refine it_enum ?_
  | with_reducible refine it_tup ?_
  | ((with_reducible refine' zip_mk ?e1 ?e2 ?_); (case e1 => walk_at "hp"); (case e2 => walk_at "hp"))
  | ((with_reducible refine' enum_mk ?e1 ?_); (case e1 => walk_at "hp"))
  | ((with_reducible refine' tupI_mk ?e1 ?_); (case e1 => walk_at "hp"))
  | with_reducible refine st_try ?_
  | with_reducible refine se_by ?_
  | ((with_reducible refine' RTupO.l ?e1 ?_); (case e1 => walk_at "hp"))
  | ((with_reducible refine' RListO.l ?e1 ?_); (case e1 => walk_at "hp"))
  | ((with_reducible refine' RListO.t ?e1 ?_); (case e1 => walk_at "hp"))
  | ((with_reducible refine' RListM.l ?e1 ?_); (case e1 => walk_at "hp")))
local macro_rules | `(tactic| walk_at "se") => `(tactic| repeat (walk_at "s5"; try dsimp only [List.set, Int.reduceToNat]))
local macro_rules | `(tactic| walk_at "sl") => `(tactic| first
  | exact List.Sublist.refl _
  | (refine List.Sublist.cons₂ _ ?_; walk_at "sl")
  | (refine List.Sublist.cons _ ?_; walk_at "sl"))
local macro_rules | `(tactic| walk_at "keep") => `(tactic| exact HI.sublist (by assumption) (by walk_at "sl"))

/-- a refusal gets out: of the class at C, the very thing v in it -/
def Outs (E : XK) (C : Addr) (v : V) (R : Cells) (D : Hp) : Prop := ∀ d H' D', HI H' R D' → Ex D D' → D' d = some (.xd [(("found" : Str), v)]) → E (.ref C) (some d) H'
/-! the words, sign by sign -/
def jn : List (List Nat) → List Nat
  | [] => []
  | [a] => a
  | a :: b :: r => a ++ 32 :: jn (b :: r)
theorem jn_snoc : ∀ (l : List (List Nat)) (b : List Nat), l ≠ [] → jn (l ++ [b]) = jn l ++ 32 :: b
  | [a], b, _ => rfl
  | a :: c :: r, b, _ => by
    have ih := jn_snoc (c :: r) b (by simp)
    show a ++ 32 :: jn ((c :: r) ++ [b]) = (a ++ 32 :: jn (c :: r)) ++ 32 :: b
    rw [ih]
    simp
theorem jn_last : ∀ (l : List (List Nat)) (b : List Nat) (c : Nat), jn (l ++ [b ++ [c]]) = jn (l ++ [b]) ++ [c]
  | [], b, c => rfl
  | [a], b, c => by
    show a ++ 32 :: (b ++ [c]) = (a ++ 32 :: b) ++ [c]
    simp
  | a :: d :: r, b, c => by
    have ih := jn_last (d :: r) b c
    show a ++ 32 :: jn ((d :: r) ++ [b ++ [c]]) = (a ++ 32 :: jn ((d :: r) ++ [b])) ++ [c]
    rw [ih]
    simp
theorem split_at {a b x y : List Nat} (ha : 32 ∉ a) (hb : 32 ∉ b) (h : a ++ 32 :: x = b ++ 32 :: y) : a = b ∧ x = y := by
  induction a generalizing b with
  | nil =>
    cases b with
    | nil => exact ⟨rfl, (List.cons.inj h).2⟩
    | cons c b => exact absurd (List.cons.inj h).1 (fun e => hb (by rw [e]; exact List.mem_cons_self ..))
  | cons c a ih =>
    cases b with
    | nil => exact absurd (List.cons.inj h).1 (fun e => ha (by rw [e]; exact List.mem_cons_self ..))
    | cons d b =>
      obtain ⟨e1, e2⟩ := List.cons.inj h
      obtain ⟨e3, e4⟩ := ih (fun m => ha (List.mem_cons_of_mem _ m)) (fun m => hb (List.mem_cons_of_mem _ m)) e2
      exact ⟨by rw [e1, e3], e4⟩
theorem jn_inj : ∀ {l m : List (List Nat)}, l ≠ [] → m ≠ [] → (∀ a ∈ l, 32 ∉ a) → (∀ a ∈ m, 32 ∉ a) → jn l = jn m → l = m
  | [a], [b], _, _, _, _, h => by
    have : a = b := h
    rw [this]
  | [a], b :: c :: r, _, _, hl, _, h => by
    have h' : a = b ++ 32 :: jn (c :: r) := h
    exact absurd (show 32 ∈ a by rw [h']; simp) (hl a (by simp))
  | a :: c :: r, [b], _, _, _, hm, h => by
    have h' : a ++ 32 :: jn (c :: r) = b := h
    exact absurd (show 32 ∈ b by rw [← h']; simp) (hm b (by simp))
  | a :: b :: r, c :: d :: q, _, _, hl, hm, h => by
    obtain ⟨e1, e2⟩ := split_at (hl a (by simp)) (hm c (by simp)) (show a ++ 32 :: jn (b :: r) = c ++ 32 :: jn (d :: q) from h)
    rw [e1, jn_inj (by simp) (by simp) (fun x hx => hl x (List.mem_cons_of_mem _ hx)) (fun x hx => hm x (List.mem_cons_of_mem _ hx)) e2]
theorem join_jn : ∀ ws : List Str, (Str.join " " ws).cps.toList = jn (ws.map tl')
  | [] => by simp [Str.join, Str.empty, jn]
  | [a] => rfl
  | a :: b :: r => by
    have ih := join_jn (b :: r)
    show (a ++ (" " : Str) ++ Str.join " " (b :: r)).cps.toList = a.cps.toList ++ 32 :: jn ((b :: r).map tl')
    rw [tl_app, tl_app, ih]
    have : (" " : Str).cps.toList = [32] := rfl
    rw [this]
    simp
theorem tl_inj : ∀ {l m : List Str}, l.map tl' = m.map tl' → l = m
  | [], [], _ => rfl
  | [], _ :: _, h => by cases h
  | _ :: _, [], h => by cases h
  | a :: l, b :: m, h => by
    obtain ⟨e1, e2⟩ := List.cons.inj h
    rw [str_ext e1, tl_inj e2]
/-- the split is what has no blank within and joins to the text -/
theorem split_is {z : Str} {ws : List Str} (h0 : ws ≠ []) (h1 : jn (ws.map tl') = tl' z) (h2 : ∀ w ∈ ws, 32 ∉ tl' w) : Txt.split z " " = ws := by
  have e1 : (Str.join " " (Txt.split z " ")).cps.toList = tl' z := by rw [PySem.StrLaws.join_split]
  rw [join_jn] at e1
  refine tl_inj (jn_inj ?_ ?_ ?_ ?_ (e1.trans h1.symm))
  · have := split_pos z " "
    intro e
    rw [List.map_eq_nil_iff] at e
    rw [e] at this
    simp at this
  · intro e
    exact h0 (List.map_eq_nil_iff.mp e)
  · intro a ha
    obtain ⟨w, hw, rfl⟩ := List.mem_map.mp ha
    exact PySem.StrLaws.split_free z 32 w hw
  · intro a ha
    obtain ⟨w, hw, rfl⟩ := List.mem_map.mp ha
    exact h2 w hw
/-- the words that words_of tells -/
def wordsO (z : Str) : Option (List Str) := if 10 ∈ tl' z then none else if ("" : Str) ∈ Txt.split z " " then none else some (Txt.split z " ")
def spWords (K : PySem.W.Frag) : Sp := fun vs H Q _ => ∃ (v : V) (R : Cells) (D : Hp), vs = [v] ∧ HI H R D ∧ Th K D v ∧
  ((∀ z, v = .str z → wordsO z = none) → ∀ H' D', HI H' R D' → Ex D D' → Q .non H') ∧ (∀ z ws, v = .str z → wordsO z = some ws → ∀ p H' D', HI H' ((p, .lst (ws.map V.str)) :: R) D' → Ex D D' → Q (.ref p) H')
set_option maxHeartbeats 1000000 in
theorem ok_words_of {P : Program} {w : World} {K : PySem.W.Frag} {mg : Str → Option Value} {base : Heap} (T : Tx K mg) : FnG P w K mg base 1 (a_words_of K) ["thing"] (spWords K) := by
  refine T.f_words_of.ok sc_words_of (fun vs H Q E h => ?_) (fun cdv A outer s H vs Q E hgu hr h => ⟨_, (pss_cons (ps_if (PW.pt (pw_or (pt_not (pt_val (pe_callB (show CallR _ (.builtin "isinstance") (RIsi K) from call_isiU) (by rfl) T.n_isinstance boot_isinstance (pa_cons (pv 0) (pa_cons (pe_bltn (v := .ty "str") (by rfl) T.n_str boot_str rfl) pa_nil))))) (pw_or1 (pt_cmpR op_inU pe_str (pv 0) (by rfl))))) (pss_one (ps_ret pe_non)) pss_nil)
 (pss_cons (ps_set (i := 1) sc_words_of.nd rfl (Or.inl rfl) (pe_m1 PySem.F.slot_str_split PySem.F.type_str_split mt_splitUM (pv 0) pe_str))
 (pss_one (ps_ret (pe_ifExp (pt_cmpR op_inU pe_str (pv 1) (by rfl)) pe_non (pv 1)))))), ?_⟩)
  · obtain ⟨v, R, D, rfl, _⟩ := h
    rfl
  · obtain ⟨v, R, D, rfl, hI, ⟨⟨k, kn⟩, ht⟩, no, yes⟩ := h
    walk_at "go"
    by_cases hk : k.is "str" = true
    · obtain ⟨z, rfl, rfl⟩ := kn.of_str hk
      obtain ⟨zl, zs⟩ := ht z rfl
      refine iteF ?_
      walk_at "se"
      refine rin_sign (c := 10) ?_
      by_cases h10 : 10 ∈ z.cps.toList
      · rw [decide_eq_true h10]
        walk_at "se"
        exact no (fun y e => by cases e; exact if_pos h10) _ _ hI (Ex.refl _)
      · rw [decide_eq_false h10]
        walk_at "se"
        refine RSplitM.mk rfl (by omega) ?_
        walk_at "se"
        rename_i p H1 hI1
        have fl : ((Txt.split z (Str.ofString " ")).map V.str).all flatV = true := List.all_eq_true.mpr fun v hv => by
          obtain ⟨y, _, rfl⟩ := List.mem_map.mp hv
          rfl
        refine rin_lst (hI1.get (List.mem_cons_self ..)) rfl fl ?_
        by_cases he : (Str.ofString "") ∈ Txt.split z (Str.ofString " ")
        · have e1 : inV (.str (Str.ofString "")) ((Txt.split z (Str.ofString " ")).map V.str) = true := List.any_eq_true.mpr ⟨_, List.mem_map.mpr ⟨_, he, rfl⟩, by first | exact decide_eq_true rfl | exact beq_self_eq_true _⟩
          rw [e1]
          walk_at "se"
          exact no (fun y e => by cases e; exact (if_neg h10).trans (if_pos he)) _ _ hI1.drop (Ex.refl _)
        · have e1 : inV (.str (Str.ofString "")) ((Txt.split z (Str.ofString " ")).map V.str) = false := by
            refine Bool.eq_false_iff.mpr fun h => ?_
            obtain ⟨y, hy, e⟩ := List.any_eq_true.mp h
            obtain ⟨w, hw, rfl⟩ := List.mem_map.mp hy
            have : w = Str.ofString "" := by first | exact of_decide_eq_true e | exact beq_iff_eq.mp e
            rw [this] at hw
            exact he hw
          rw [e1]
          walk_at "se"
          exact yes z _ rfl ((if_neg h10).trans (if_neg he)) _ _ _ hI1 (Ex.refl _)
    · rw [Bool.eq_false_iff.mpr hk]
      walk_at "se"
      exact no (fun z e => absurd (kn.not_str (Bool.eq_false_iff.mpr hk) z) (fun h => h e)) _ _ hI (Ex.refl _)
def spTwo (K : PySem.W.Frag) : Sp := fun vs H Q E => ∃ (v : V) (R : Cells) (D : Hp), vs = [v] ∧ HI H R D ∧ Mt K R D v ∧
  (∀ i : Int, v = .int i → 0 ≤ i → i ≤ 99 → ∀ H', HI H' R D → Q (.str (Txt.zfill (toString i) 2)) H') ∧ (wholeB v 0 99 = false → Outs E (He.ga K "NoNumber") v R D)
set_option maxHeartbeats 1000000 in
theorem ok_two_figures {P : Program} {w : World} {K : PySem.W.Frag} {mg : Str → Option Value} {base : Heap} (T : Tx K mg) : FnG P w K mg base 4 (a_two_figures K) ["number"] (spTwo K) := by
  refine T.f_two_figures.ok sc_two_figures (fun vs H Q E h => ?_) (fun cdv A outer s H vs Q E hgu hr h => ⟨_, (pss_cons (ps_if (pt_not (pt_val (ge_call (ok_is_whole T) hgu (hr.mono (by decide)) rfl T.g_is_whole T.k_is_whole T.b_is_whole .nil (fun _ => pass_takes (takes_of rfl rfl rfl rfl)) (pa_cons (pv 0) (pa_cons pe_int (pa_cons pe_int pa_nil)))))) (pss_one (ps_raiseX rfl (takes_of rfl rfl rfl rfl) T.x_NoNumber (ok_NoNumber_init T) T.b_NoNumber_init (hr.mono (by decide)) rfl (pa_cons (pv 0) pa_nil))) pss_nil)
 (pss_one (ps_ret (pe_m1 PySem.F.slot_str_zfill PySem.F.type_str_zfill mt_zfillU (pe_callTy call_strU (by rfl) T.n_str boot_str (pa_cons (pv 0) pa_nil)) pe_int)))), ?_⟩)
  · obtain ⟨v, R, D, rfl, _⟩ := h
    rfl
  · obtain ⟨v, R, D, rfl, hI, mt, good, bad⟩ := h
    walk_at "go"
    walk_at "se"
    refine whole_use hI mt (fun H1 hI1 => ?_)
    walk_at "se"
    cases hb : wholeB v 0 99 with
    | false =>
      refine iteT ?_
      walk_at "se"
      exact bad hb _ _ _ (by assumption) (by walk_at "ex") (by walk_at "dat")
    | true =>
      refine iteF ?_
      obtain ⟨i, rfl, i0, i1⟩ := whole_is hb
      walk_at "se"
      refine RZfill.mk rfl ?_
      exact good i rfl i0 i1 _ hI1
end Wk

set_option maxRecDepth 100000
set_option maxHeartbeats 4000000
namespace Wk
open PySem PySem.Spec PyProof.Rows L2
local macro_rules | `(tactic| walk_at "mem") => `(tactic| first
  | exact List.mem_cons_self ..
  | exact List.mem_cons_of_mem _ (List.mem_cons_self ..)
  | exact List.mem_cons_of_mem _ (List.mem_cons_of_mem _ (List.mem_cons_self ..))
  | exact List.mem_cons_of_mem _ (List.mem_cons_of_mem _ (List.mem_cons_of_mem _ (List.mem_cons_self ..)))
  | exact List.mem_cons_of_mem _ (List.mem_cons_of_mem _ (List.mem_cons_of_mem _ (List.mem_cons_of_mem _ (List.mem_cons_self ..)))))
local macro_rules | `(tactic| walk_at "dat") => `(tactic| first
  | assumption
  | (refine Ex.of ?_ (by assumption); walk_at "dat"))
local macro_rules | `(tactic| walk_at "ex") => `(tactic| first
  | assumption
  | exact Ex.refl _
  | (refine Ex.trans ?_ (by assumption); walk_at "ex"))
local macro_rules | `(tactic| walk_at "hp") => `(tactic| first
  | assumption
  | exact HI.get (by assumption) (by walk_at "mem")
  | exact HI.dat (by assumption) (by walk_at "dat"))
local macro_rules | `(tactic| walk_at "hi") => `(tactic| first
  | assumption
  | exact HI.swap (by assumption)
  | exact HI.up2 (by assumption)
  | exact HI.up3 (by assumption))
local macro_rules | `(tactic| walk_at "num") => `(tactic| first
  | omega
  | decide
  | exact ⟨by decide, by decide⟩
  | exact cdiv_of (by omega) (by omega)
  | exact ⟨by omega, by omega⟩
  | (refine ⟨by omega, by omega, ?_⟩; omega)
  | exact Or.inl ⟨by omega, by omega⟩
  | exact Or.inr ⟨by omega, by omega⟩)
local macro_rules | `(tactic| walk_at "kn") => `(tactic| first
  | assumption
  | exact Kn.int _
  | exact Kn.str _
  | exact Kn.bl _
  | exact Kn.non
  | exact HI.kn (by assumption) (by assumption)
  | exact HI.kn (by assumption) (Kn.mono (by assumption) (by assumption))
  | exact Kn.lst (by walk_at "hp")
  | exact Kn.tup (by walk_at "hp")
  | exact Kn.dict (by walk_at "hp"))
local macro_rules | `(tactic| walk_at "s1") => `(tactic| first
  | with_reducible refine st_seq ?_
  | with_reducible refine st_asg ?_
  | with_reducible refine st_ret ?_
  | with_reducible refine st_if ?_
  | with_reducible refine st_drop ?_
  | with_reducible refine st_next ?_
  | with_reducible refine st_brk ?_
  | with_reducible refine st_cont ?_
  | with_reducible refine sg_name ?_
  | with_reducible refine sg_sub ?_
  | with_reducible refine sg_nil ?_
  | with_reducible refine sg_cons ?_
  | ((with_reducible refine' sg_tup ?e1 ?e2 ?_); (case e1 => exact SqT.of (by walk_at "hp")); (case e2 => rfl))
  | ((with_reducible refine' se_var ?e1 ?_); (case e1 => rfl))
  | with_reducible refine se_c ?_
  | with_reducible refine se_op ?_
  | with_reducible refine se_un ?_
  | with_reducible refine se_tup ?_
  | with_reducible refine se_lst ?_
  | with_reducible refine se_lstM ?_
  | with_reducible refine st_for ?_
  | with_reducible refine se_lc ?_
  | with_reducible refine it_rng1 ?_
  | with_reducible refine it_rng2 ?_
  | with_reducible refine it_list ?_
  | with_reducible refine it_str ?_
  | with_reducible refine strI_mk ?_
  | ((with_reducible refine' list_mk ?e1 ?_); (case e1 => walk_at "hp"))
  | ((with_reducible refine' rng1_mk ?e1 ?e2 ?_); (case e1 => omega); (case e2 => omega))
  | ((with_reducible refine' rng2_mk ?e1 ?_); (case e1 => omega))
  | with_reducible refine st_yes ?_
  | ((with_reducible refine' al_D ?e1 ?_); (case e1 => assumption); intro _ _ _ _ _ _)
  | ((with_reducible refine' al_M ?e1 ?_); (case e1 => assumption); intro _ _ _)
  | ((with_reducible refine' and_on ?e1 ?_); (case e1 => first | exact small_ok (Nat.le_of_ble_eq_true rfl) | rfl | omega))
  | with_reducible refine sa_nil ?_
  | with_reducible refine sa_cons ?_
  | with_reducible refine se_cb ?_
  | with_reducible refine se_if ?_
  | with_reducible refine st_test ?_
  | with_reducible refine st_B ?_
  | with_reducible refine st_bl ?_
  | with_reducible refine st_and ?_
  | with_reducible refine st_or ?_
  | with_reducible refine st_not ?_
  | with_reducible refine ri0_mk ?_
  | with_reducible refine ru_mk ?_
  | ((with_reducible refine' ri_mk ?e1 ?_); (case e1 => walk_at "num"))
  | with_reducible refine RAdd.int ?_
  | ((with_reducible refine' RMul.int ?e1 ?_); (case e1 => walk_at "num"))
  | with_reducible refine req_int ?_
  | with_reducible refine rne_int ?_
  | with_reducible refine req_str ?_
  | with_reducible refine rne_str ?_
  | ((with_reducible refine' RIx.l ?e1 ?e2 ?_); (case e1 => walk_at "hp"); (case e2 => rfl))
  | ((with_reducible refine' set_c ?e1 ?e2 ?_); (case e1 => assumption); (case e2 => rfl); intro _ _)
  | ((with_reducible refine' set_c2 ?e1 ?e2 ?_); (case e1 => assumption); (case e2 => rfl); intro _ _)
  | ((with_reducible refine' set_c3 ?e1 ?e2 ?_); (case e1 => assumption); (case e2 => rfl); intro _ _)
  | with_reducible refine iteT ?_
  | with_reducible refine iteF ?_
  | ((with_reducible refine' if_yes ?e1 ?_); (case e1 => omega))
  | ((with_reducible refine' if_no ?e1 ?_); (case e1 => omega))
  | ((with_reducible refine' if_yesN ?e1 ?_); (case e1 => omega))
  | ((with_reducible refine' if_noN ?e1 ?_); (case e1 => omega))
  | ((with_reducible refine' RIx.t ?e1 ?e2 ?_); (case e1 => walk_at "hp"); (case e2 => rfl))
  | with_reducible refine se_andV ?_
  | with_reducible refine se_orV ?_
  | with_reducible refine se_notV ?_
  | with_reducible refine se_chain ?_
  | with_reducible refine se_sl ?_
  | with_reducible refine so_none ?_
  | with_reducible refine so_some ?_
  | with_reducible refine so_int ?_
  | with_reducible refine se_m1 ?_
  | with_reducible refine se_m0 ?_
  | with_reducible refine m_str ?_
  | with_reducible refine se_mkE ?_
  | ((with_reducible refine' mkE_now ?e1 ?_); (case e1 => assumption); intro _ _ _ _ _ _ _ _)
  | with_reducible refine st_raiseX ?_
  | ((with_reducible refine' mkX_now ?e1 ?_); (case e1 => assumption); intro _ _ _ _ _ _)
  | with_reducible refine st_par ?_
  | with_reducible refine par_mk ?_
  | ((with_reducible refine' st_aug ?e1 ?_); (case e1 => rfl))
  | ((with_reducible refine' RIsi.ty ?e1 ?e2 ?_); (case e1 => walk_at "kn"); (case e2 => decide))
  | with_reducible refine ris_non ?_
  | with_reducible refine ris_nonN ?_
  | with_reducible refine ris_bl ?_
  | with_reducible refine ris_blN ?_
  | with_reducible refine rin_sign ?_
  | with_reducible refine rni_sign ?_
  | ((with_reducible refine' RLen.str ?e1 ?_); (case e1 => first | exact small_ok (by omega) | exact small_ok (Nat.le_of_ble_eq_true rfl)))
  | ((with_reducible refine' RLen.lst ?e1 ?_); (case e1 => walk_at "hp"))
  | ((with_reducible refine' RLen.frz ?e1 ?_); (case e1 => walk_at "hp"))
  | ((with_reducible refine' RLen.tup ?e1 ?_); (case e1 => walk_at "hp"))
  | (with_reducible refine RMx.mk ?_; intro _ _ _ _)
  | (with_reducible refine RMn.mk ?_; intro _ _ _ _)
  | with_reducible refine RStarts.mk ?_
  | with_reducible refine RFind.mk ?_
  | with_reducible refine RInt.bl ?_
  | ((with_reducible refine' RAll.mk ?e1 ?_); (case e1 => walk_at "hp")))
local macro_rules | `(tactic| walk_at "sx") => `(tactic| repeat (walk_at "s1"; try dsimp only [List.set, Int.reduceToNat]))
local macro_rules | `(tactic| walk_at "go") => `(tactic| (dsimp only [cxOf, L2.start, List.map, List.length, List.replicate, Nat.reduceAdd, Nat.reduceSub, List.replicate, HAppend.hAppend, Append.append, List.append]; walk_at "sx"))
local macro_rules | `(tactic| walk_at "sxm") => `(tactic| repeat (first | ((with_reducible refine' mod_let ?e1 ?_); (case e1 => omega); intro _ _ _) | walk_at "s1"; try dsimp only [List.set, Int.reduceToNat]))
local macro_rules | `(tactic| walk_at "go0") => `(tactic| dsimp only [cxOf, L2.start, List.map, List.length, List.replicate, Nat.reduceAdd, Nat.reduceSub, List.replicate, HAppend.hAppend, Append.append, List.append])

local macro_rules | `(tactic| walk_at "s2") => `(tactic| first
  | walk_at "s1"
  | with_reducible refine se_call1 ?_
  | with_reducible refine se_callN ?_
  | with_reducible refine se_dnewK ?_
  | ((with_reducible refine' se_disp ?e1 ?_); (case e1 => assumption); intro _ _ _)
  | with_reducible refine sp_cons ?_
  | with_reducible refine sp_nil ?_
  | ((with_reducible refine' disp_now ?e1 ?e2 ?e3 ?_); (case e1 => assumption); (case e2 => rfl); (case e3 => exact Nat.le_of_ble_eq_true rfl); intro _ _ _ _ _)
  | ((with_reducible refine' RAdd.lst ?e1 ?e2 ?e3 ?_); (case e1 => walk_at "hp"); (case e2 => walk_at "hp"); (case e3 => exact small_ok (Nat.le_of_ble_eq_true rfl)))
  | ((with_reducible refine' RMul.lst ?e1 ?e2 ?e3 ?e4 ?_); (case e1 => walk_at "hp"); (case e2 => omega); (case e3 => omega); (case e4 => exact small_ok (Nat.le_of_ble_eq_true rfl)))
  | ((with_reducible refine' RStr.int ?e1 ?_); (case e1 => exact log2_small (by omega)))
  | ((with_reducible refine' RSl.str ?e1 ?_); (case e1 => first | exact small_ok (by omega) | exact small_ok (Nat.le_of_ble_eq_true rfl)))
  | ((with_reducible refine' RAdd.str ?e1 ?_); (case e1 => exact small_ok (by omega)))
  | ((with_reducible refine' take_now ?e1 ?e2 ?e3 ?e4 ?e5 ?_); (case e1 => walk_at "hi"); (case e2 => omega); (case e3 => omega); (case e4 => assumption); (case e5 => omega); intro _ _ _ _ _ _ _ _ _))
local macro_rules | `(tactic| walk_at "sy") => `(tactic| repeat (walk_at "s2"; try dsimp only [List.set, Int.reduceToNat]))
local macro_rules | `(tactic| walk_at "sz1") => `(tactic| first
  | ((with_reducible refine' rsl_some ?e1 ?e2 ?_); (case e1 => omega); (case e2 => assumption); intro _ _ _)
  | ((with_reducible refine' radd_some ?e1 ?e2 ?e3 ?_); (case e1 => omega); (case e2 => assumption); (case e3 => assumption); intro _ _ _)
  | ((with_reducible refine' rmul_some ?e1 ?e3 ?e4 ?e5 ?_); (case e1 => rfl); (case e3 => omega); (case e4 => omega); (case e5 => exact sg_of rfl); intro _ _ _)
  | walk_at "s2")
local macro_rules | `(tactic| walk_at "sz") => `(tactic| repeat (walk_at "sz1"; try dsimp only [List.set, Int.reduceToNat]))

local macro_rules | `(tactic| walk_at "s3") => `(tactic| first
  | walk_at "s2"
  | with_reducible refine se_fld ?_
  | with_reducible refine st_fld ?_
  | ((with_reducible refine' fld_mk ?e1 ?e2 ?e3 ?e4 ?_); (case e1 => walk_at "hp"); (case e2 => assumption); (case e3 => walk_at "mem"); (case e4 => rfl))
  | ((with_reducible refine' sfld_now ?e1 ?e2 ?e3 ?e4 ?_); (case e1 => walk_at "hi"); (case e2 => assumption); (case e3 => walk_at "mem"); (case e4 => exact Nat.lt_of_lt_of_le (Nat.lt_succ_self _) (Nat.le_of_ble_eq_true rfl)); intro _ _)
  | with_reducible refine se_meth ?_
  | with_reducible refine se_methN ?_
  | ((with_reducible refine' meth_mk ?e1 ?e2 ?_); (case e1 => walk_at "hp"); (case e2 => rfl))
  | with_reducible refine se_make ?_
  | with_reducible refine se_makeN ?_
  | ((with_reducible refine' make_now ?e1 ?_); (case e1 => assumption); intro _ _ _ _)
  | with_reducible refine se_fmt ?_
  | ((with_reducible refine' RFmt.str ?e1 ?_); (case e1 => omega))
  | ((with_reducible refine' RFmt.int ?e1 ?_); (case e1 => exact log2_small (by omega)))
  | with_reducible refine sj_nil ?_
  | with_reducible refine sj_cons ?_
  | ((with_reducible refine' js_mk ?e1 ?_); (case e1 => omega))
  | ((with_reducible refine' and_on ?e1 ?_); (case e1 => exact small_ok (by simp only [len_app]; omega))))
local macro_rules | `(tactic| walk_at "sc") => `(tactic| repeat (walk_at "s3"; try dsimp only [List.set, Int.reduceToNat]))

local macro_rules | `(tactic| walk_at "s4") => `(tactic| first
  | walk_at "s3"
  | with_reducible refine se_bm ?_
  | with_reducible refine se_bm0 ?_
  | ((with_reducible refine' bm_ty ?e1 ?_); (case e1 => walk_at "hp"))
  | ((with_reducible refine' app_now ?e1 ?e2 ?_); (case e1 => walk_at "hi"); (case e2 => first | omega | exact Nat.lt_of_lt_of_le (Nat.lt_succ_self _) (Nat.le_of_ble_eq_true rfl)); intro _ _))
local macro_rules | `(tactic| walk_at "sd") => `(tactic| repeat (walk_at "s4"; try dsimp only [List.set, Int.reduceToNat]))

local macro_rules | `(tactic| walk_at "s5") => `(tactic| first
  | with_reducible refine rne_same ?_
  | with_reducible refine req_same ?_
  | walk_at "s4"
  | ((with_reducible refine' if_kT ?e1 ?_); (case e1 => first | assumption | rfl))
  | ((with_reducible refine' if_kF ?e1 ?_); (case e1 => first | assumption | rfl))
  | ((with_reducible refine' if_nkT ?e1 ?_); (case e1 => first | assumption | rfl))
  | ((with_reducible refine' if_nkF ?e1 ?_); (case e1 => first | assumption | rfl))
  | ((with_reducible refine' if_tagF ?e1 ?_); (case e1 => rfl))
  | ((with_reducible refine' if_tagN ?e1 ?_); (case e1 => rfl))
  | ((with_reducible refine' if_yes ?e1 ?_); (case e1 => with_reducible rfl))
  | ((with_reducible refine' if_yesN ?e1 ?_); (case e1 => with_reducible rfl))
  | with_reducible refine if_notT ?_
  | with_reducible refine if_notF ?_
  | with_reducible refine it_zip ?_
  | with_reducible refine it_enum ?_
  | with_reducible refine it_tup ?_
  | ((with_reducible refine' zip_mk ?e1 ?e2 ?_); (case e1 => walk_at "hp"); (case e2 => walk_at "hp"))
  | ((with_reducible refine' enum_mk ?e1 ?_); (case e1 => walk_at "hp"))
  | ((with_reducible refine' tupI_mk ?e1 ?_); (case e1 => walk_at "hp"))
  | with_reducible refine st_try ?_
  | with_reducible refine se_by ?_
  | ((with_reducible refine' RTupO.l ?e1 ?_); (case e1 => walk_at "hp"))
  | ((with_reducible refine' RListO.l ?e1 ?_); (case e1 => walk_at "hp"))
  | ((with_reducible refine' RListO.t ?e1 ?_); (case e1 => walk_at "hp"))
  | ((with_reducible refine' RListM.l ?e1 ?_); (case e1 => walk_at "hp")))
local macro_rules | `(tactic| walk_at "se") => `(tactic| repeat (walk_at "s5"; try dsimp only [List.set, Int.reduceToNat]))
local macro_rules | `(tactic| walk_at "sl") => `(tactic| first
  | exact List.Sublist.refl _
  | (refine List.Sublist.cons₂ _ ?_; walk_at "sl")
  | (refine List.Sublist.cons _ ?_; walk_at "sl"))
local macro_rules | `(tactic| walk_at "keep") => `(tactic| exact HI.sublist (by assumption) (by walk_at "sl"))

theorem words_use {K : PySem.W.Frag} {v : V} {R : Cells} {D H : Hp} {Q : VK} {E : XK} (hI : HI H R D) (th : Th K D v) (no : (∀ z, v = .str z → wordsO z = none) → ∀ H' D', HI H' R D' → Ex D D' → Q .non H') (yes : ∀ z ws, v = .str z → wordsO z = some ws → ∀ p H' D', HI H' ((p, .lst (ws.map V.str)) :: R) D' → Ex D D' → Q (.ref p) H') : spWords K [v] H Q E := ⟨v, R, D, rfl, hI, th, no, yes⟩
theorem in_strs {y : Str} {ws : List Str} : inV (.str y) (ws.map V.str) = decide (y ∈ ws) := by
  by_cases h : y ∈ ws
  · rw [decide_eq_true h]
    exact List.any_eq_true.mpr ⟨_, List.mem_map.mpr ⟨_, h, rfl⟩, by first | exact decide_eq_true rfl | exact beq_self_eq_true _⟩
  · rw [decide_eq_false h]
    refine Bool.eq_false_iff.mpr fun e => ?_
    obtain ⟨x, hx, e⟩ := List.any_eq_true.mp e
    obtain ⟨w, hw, rfl⟩ := List.mem_map.mp hx
    have : w = y := by first | exact of_decide_eq_true e | exact beq_iff_eq.mp e
    rw [this] at hw
    exact h hw
theorem flat_strs {ws : List Str} : (ws.map V.str).all flatV = true := List.all_eq_true.mpr fun v hv => by
  obtain ⟨y, _, rfl⟩ := List.mem_map.mp hv
  rfl
theorem ix_last {α : Type} {f : List α} {w : α} : ixN (f ++ [w]).length (-1) = some f.length := by
  unfold ixN
  rw [if_neg (by decide), if_pos (by rw [List.length_append, List.length_singleton]; omega)]
  have e : ((-1 : Int) + ((f ++ [w]).length : Int)).toNat = f.length := by rw [List.length_append, List.length_singleton]; omega
  rw [e]
theorem set_last {α : Type} {f : List α} {w y : α} : (f ++ [w]).set f.length y = f ++ [y] := by
  rw [List.set_append_right _ _ (Nat.le_refl _), Nat.sub_self]
  rfl
theorem one_eq {c d : Nat} (h : c ≠ d) : (⟨#[c]⟩ : Str) ≠ ⟨#[d]⟩ := fun e => h (by
  have : (#[c] : Array Nat) = #[d] := congrArg Str.cps e
  simpa using this)
set_option maxHeartbeats 1000000 in
theorem ok_l_words {P : Program} {w : World} {K : PySem.W.Frag} {mg : Str → Option Value} {base : Heap} (T : Tx K mg) : FnG P w K mg base 1 (a_l_words K) ["text"] (spWords K) := by
  refine T.f_l_words.ok sc_l_words (fun vs H Q E h => ?_) (fun cdv A outer s H vs Q E hgu hr h => ⟨_, (pss_cons (ps_if (pt_not (pt_val (pe_callB (show CallR _ (.builtin "isinstance") (RIsi K) from call_isiU) (by rfl) T.n_isinstance boot_isinstance (pa_cons (pv 0) (pa_cons (pe_bltn (v := .ty "str") (by rfl) T.n_str boot_str rfl) pa_nil))))) (pss_one (ps_ret pe_non)) pss_nil)
 (pss_cons (ps_set (i := 1) sc_l_words.nd rfl (Or.inl rfl) (pe_lstM (pa_cons pe_str pa_nil)))
 (pss_cons (ps_for (passes_of rfl) rfl (pi_str (pv 0)) (pg_name (i := 2) sc_l_words.nd rfl (Or.inl rfl)) (pss_cons (ps_if (pt_cmpR (op_eqU hr.units) (pv 2) pe_str (nomark _)) (pss_one (ps_ret pe_non)) pss_nil)
 (pss_one (ps_if (pt_cmpR (op_eqU hr.units) (pv 2) pe_str (nomark _)) (pss_one (ps_expr (pe_bm PySem.F.plainAttrs_list PySem.F.slot_list_append PySem.F.type_list_append mt_append (pv 1) (pa_cons pe_str pa_nil)))) (pss_one (ps_asg (pe_op op_addU (pe_ix ix_U (pv 1) (pe_un un_neg pe_int) (fun _ _ => rfl)) (pv 2)) (pg_sub (pv 1) (pe_un un_neg pe_int) set_list)))))))
 (pss_one (ps_ret (pe_ifExp (pt_cmpR op_inU pe_str (pv 1) (by rfl)) pe_non (pv 1))))))), ?_⟩)
  · obtain ⟨v, R, D, rfl, _⟩ := h
    rfl
  · obtain ⟨v, R, D, rfl, hI, ⟨⟨k, kn⟩, ht⟩, no, yes⟩ := h
    walk_at "go"
    by_cases hk : k.is "str" = true
    · obtain ⟨z, rfl, rfl⟩ := kn.of_str hk
      obtain ⟨zl, zs⟩ := ht z rfl
      refine iteF ?_
      walk_at "se"
      rename_i p H1 hI1
      refine for_str (fun i σ R' D' => ∃ (fs : List Str) (w : Str) (v2 : Option V), σ = [some (.str z), some (.ref p), v2] ∧ R' = (p, .lst ((fs ++ [w]).map V.str)) :: R ∧ D' = D ∧ jn ((fs ++ [w]).map tl') = (tl' z).take i ∧ (∀ y ∈ fs ++ [w], 32 ∉ tl' y) ∧ 10 ∉ (tl' z).take i ∧ fs.length ≤ i ∧ w.length ≤ i) hI1
        ⟨[], (Str.ofString ""), _, rfl, rfl, rfl, rfl, by decide +kernel, by simp, Nat.le_refl _, Nat.le_refl _⟩ (fun i c σ R' D' H' hc hI' q => ?_) (fun σ R' D' H' hI' q => ?_)
      · obtain ⟨fs, w, v2, rfl, rfl, rfl, hj, hf, h10, hfl, hwl⟩ := q
        have hi : i < z.length := (List.getElem?_eq_some_iff.mp (cps_get hc)).1
        have hcm : c ∈ z.cps.toList := List.mem_of_getElem? (cps_get hc)
        have tk : (tl' z).take (i + 1) = (tl' z).take i ++ [c] := take_more (cps_get hc)
        have hll : ((fs ++ [w]).map V.str).length = fs.length + 1 := by simp
        walk_at "se"
        by_cases hc10 : c = 10
        · subst hc10
          rw [decide_eq_true (show (⟨#[10]⟩ : Str) = Str.ofString "\n" from rfl)]
          walk_at "se"
          exact no (fun y e => by cases e; exact if_pos hcm) _ _ hI'.drop (Ex.refl _)
        · rw [decide_eq_false (show ¬ (⟨#[c]⟩ : Str) = Str.ofString "\n" from one_eq hc10)]
          walk_at "se"
          by_cases hc32 : c = 32
          · subst hc32
            rw [decide_eq_true (show (⟨#[32]⟩ : Str) = Str.ofString " " from rfl)]
            walk_at "se"
            rename_i H2 hI2
            rw [show (fs ++ [w]).map V.str ++ [V.str (Str.ofString "")] = ((fs ++ [w]) ++ [Str.ofString ""]).map V.str from by simp] at hI2
            refine ⟨_, _, hI2, fs ++ [w], Str.ofString "", _, rfl, rfl, rfl, ?_, ?_, ?_, by simp; omega, Nat.zero_le _⟩
            · rw [List.map_append, List.map_singleton, jn_snoc _ _ (by simp), hj, tk]
              rfl
            · intro y hy
              rcases List.mem_append.mp hy with h | h
              · exact hf y h
              · rw [List.mem_singleton.mp h]
                decide +kernel
            · rw [tk]
              intro h
              rcases List.mem_append.mp h with h | h
              · exact h10 h
              · simp at h
          · rw [decide_eq_false (show ¬ (⟨#[c]⟩ : Str) = Str.ofString " " from one_eq hc32)]
            walk_at "se"
            refine RIx.l (by walk_at "hp") atI_lastM ?_
            walk_at "se"
            refine RAdd.str (small_ok (by show w.length + 1 ≤ 1000000; omega)) ?_
            walk_at "se"
            rw [List.map_append] at hI'
            refine set_c hI' ix_last (fun H2 hI2 => ?_)
            have sl : (fs.map V.str ++ List.map V.str [w]).set (fs.map V.str).length (V.str (w ++ ⟨#[c]⟩)) = (fs ++ [w ++ ⟨#[c]⟩]).map V.str := by rw [show List.map V.str [w] = [V.str w] from rfl, set_last, List.map_append]; rfl
            rw [sl] at hI2
            refine ⟨_, _, hI2, fs, w ++ ⟨#[c]⟩, _, rfl, rfl, rfl, ?_, ?_, ?_, by omega, by rw [len_app]; show w.length + 1 ≤ i + 1; omega⟩
            · rw [List.map_append] at hj ⊢
              rw [List.map_singleton] at hj ⊢
              rw [show tl' (w ++ ⟨#[c]⟩) = tl' w ++ [c] from tl_app _ _, jn_last, hj, tk]
            · intro y hy
              rcases List.mem_append.mp hy with h | h
              · exact hf y (List.mem_append_left _ h)
              · rw [List.mem_singleton.mp h]
                intro m
                rw [show tl' (w ++ ⟨#[c]⟩) = tl' w ++ [c] from tl_app _ _] at m
                rcases List.mem_append.mp m with m | m
                · exact hf w (by simp) m
                · exact hc32 (List.mem_singleton.mp m).symm
            · rw [tk]
              intro h
              rcases List.mem_append.mp h with h | h
              · exact h10 h
              · exact hc10 (List.mem_singleton.mp h).symm
      · obtain ⟨fs, w, v2, rfl, rfl, rfl, hj, hf, h10, hfl, hwl⟩ := q
        rw [List.take_of_length_le (by simp [tl'])] at hj h10
        have sp := split_is (z := z) (ws := fs ++ [w]) (by simp) hj hf
        walk_at "se"
        refine rin_lst (hI'.get (List.mem_cons_self ..)) rfl flat_strs ?_
        rw [in_strs]
        by_cases he : (Str.ofString "") ∈ fs ++ [w]
        · rw [decide_eq_true he]
          walk_at "se"
          exact no (fun y e => by cases e; exact (if_neg h10).trans (if_pos (by rw [sp]; exact he))) _ _ hI'.drop (Ex.refl _)
        · rw [decide_eq_false he]
          walk_at "se"
          exact yes z _ rfl ((if_neg h10).trans ((if_neg (by rw [sp]; exact he)).trans (by rw [sp]))) _ _ _ hI' (Ex.refl _)
    · rw [Bool.eq_false_iff.mpr hk]
      walk_at "se"
      exact no (fun z e => absurd (kn.not_str (Bool.eq_false_iff.mpr hk) z) (fun h => h e)) _ _ hI (Ex.refl _)
end Wk

set_option maxRecDepth 100000
set_option maxHeartbeats 4000000
/-! Bounds of what repr shows. -/
namespace Wk
open PySem PySem.Spec PyProof.Rows L2
theorem join_len (sep : Str) : ∀ ys : List Str, (Str.join sep ys).length ≤ (ys.map (·.length)).sum + ys.length * sep.length
  | [] => Nat.zero_le _
  | [y] => by
    show y.length ≤ _
    simp
  | x :: y :: r => by
    have ih := join_len sep (y :: r)
    show (x ++ sep ++ Str.join sep (y :: r)).length ≤ _
    rw [len_app, len_app]
    simp only [List.map_cons, List.sum_cons, List.length_cons, Nat.add_mul, Nat.one_mul] at ih ⊢
    omega
theorem join_sg {sep : Str} (hs : Sg sep) : ∀ ys : List Str, (∀ y ∈ ys, Sg y) → Sg (Str.join sep ys)
  | [], _ => fun c hc => by simp [Str.join, Str.empty] at hc
  | [y], h => h y (List.mem_cons_self ..)
  | x :: y :: r, h => by
    have ih := join_sg hs (y :: r) fun z hz => h z (List.mem_cons_of_mem _ hz)
    show Sg (x ++ sep ++ Str.join sep (y :: r))
    exact ((h x (List.mem_cons_self ..)).app hs).app ih
theorem repr_len {z : Str} (h : Sg z) : (reprText z).length ≤ 10 * z.length + 2 := PySem.StrLaws.reprText_len z fun c hc => by
  have := h c hc
  omega
end Wk

set_option maxRecDepth 100000
set_option maxHeartbeats 4000000
/-! Data that may be shown: how long, how deep. -/
namespace Wk
open PySem PySem.Spec PyProof.Rows L2
structure Sm (d : PyData) (n k : Nat) : Prop where
  s : d.showable = true
  l : d.shown.length ≤ n
  d : d.depth ≤ k
theorem Sm.mono {d : PyData} {n k n' k' : Nat} (h : Sm d n k) (a : n ≤ n') (b : k ≤ k') : Sm d n' k' := ⟨h.s, Nat.le_trans h.l a, Nat.le_trans h.d b⟩
theorem Sm.non : Sm .none 4 0 := ⟨rfl, by decide +kernel, Nat.le_refl _⟩
theorem Sm.bl (b : Bool) : Sm (.bool b) 5 0 := by cases b <;> exact ⟨rfl, by decide +kernel, Nat.le_refl _⟩
theorem Sm.int {i : Int} (h : i.natAbs < 10 ^ 30) : Sm (.int i) 31 0 := ⟨decide_eq_true (log2_small (by omega)), (tst h).1, Nat.le_refl _⟩
theorem Sm.str {z : Str} (h : Sg z) : Sm (.str z) (10 * z.length + 2) 0 := ⟨by simp [PyData.showable], repr_len h, by simp [PyData.depth]⟩
theorem sm_all {n k : Nat} : ∀ {ds : List PyData}, (∀ d ∈ ds, Sm d n k) → PyData.showableAll ds = true ∧ (((PyData.shownAll ds).map (·.length)).sum ≤ n * ds.length ∧ (PyData.shownAll ds).length = ds.length) ∧ PyData.depthAll ds ≤ k
  | [], _ => ⟨rfl, ⟨Nat.zero_le _, rfl⟩, Nat.zero_le _⟩
  | d :: ds, h => by
    obtain ⟨a, ⟨b, c⟩, e⟩ := sm_all (ds := ds) fun x hx => h x (List.mem_cons_of_mem _ hx)
    obtain ⟨a1, b1, e1⟩ := h d (List.mem_cons_self ..)
    refine ⟨?_, ⟨?_, ?_⟩, ?_⟩
    · simp only [PyData.showableAll, a1, a, Bool.and_self]
    · simp only [PyData.shownAll, List.map_cons, List.sum_cons, List.length_cons, Nat.mul_succ]
      omega
    · simp only [PyData.shownAll, List.length_cons, c]
    · simp only [PyData.depthAll]
      omega
theorem Sm.list {n k : Nat} {ds : List PyData} (h : ∀ d ∈ ds, Sm d n k) : Sm (.list ds) (n * ds.length + 2 * ds.length + 3) (k + 1) := by
  obtain ⟨a, ⟨b, c⟩, e⟩ := sm_all h
  refine ⟨by simpa only [PyData.showable] using a, ?_, by simp only [PyData.depth]; omega⟩
  have jl := PySem.listText_len_le (PyData.shownAll ds)
  rw [c] at jl
  have e4 : (PyData.list ds).shown = PySem.listText (PyData.shownAll ds) := by simp only [PyData.shown]
  rw [e4]
  omega
theorem Sm.tuple {n k : Nat} {ds : List PyData} (h : ∀ d ∈ ds, Sm d n k) : Sm (.tuple ds) (n * ds.length + 2 * ds.length + 3) (k + 1) := by
  obtain ⟨a, ⟨b, c⟩, e⟩ := sm_all h
  refine ⟨by simpa only [PyData.showable] using a, ?_, by simp only [PyData.depth]; omega⟩
  have jl := join_len (Str.ofString ", ") (PyData.shownAll ds)
  have e1 : (Str.ofString ", ").length = 2 := rfl
  have e2 : (Str.ofString "(").length = 1 := rfl
  have e3 : (Str.ofString ")").length = 1 := rfl
  have e4 : (Str.ofString ",)").length = 2 := rfl
  rw [e1, c] at jl
  match ds, jl, b, c with
  | [], jl, b, c => exact Nat.le_trans (show (PyData.shown (.tuple [])).length ≤ 3 by decide +kernel) (by omega)
  | [x], jl, b, c =>
    have b' : x.shown.length ≤ n := by simpa [PyData.shownAll] using b
    show ((Str.ofString "(") ++ x.shown ++ (Str.ofString ",)")).length ≤ _
    rw [len_app, len_app, e2, e4]
    simp only [List.length_cons, List.length_nil]
    omega
  | x :: y :: r, jl, b, c =>
    show ((Str.ofString "(") ++ Str.join (Str.ofString ", ") (PyData.shownAll (x :: y :: r)) ++ (Str.ofString ")")).length ≤ _
    rw [len_app, len_app, e2, e3]
    omega
theorem Sm.d0 : Sm (.dict []) 2 1 := ⟨rfl, by decide +kernel, Nat.le_refl _⟩
theorem line_ok {n : Nat} (h : n ≤ 16777216) : n ≤ sizeLine := by
  rw [sizeLine_eq]
  exact h
theorem repr_sm {H : Hp} {Q : VK} {x : V} {d : PyData} {n k : Nat} (h : Rep H x d) (s : Sm d n k) (hn : n ≤ 16777216) (hk : k ≤ 60) (q : Q (.str d.shown) H) : rRepr [x] H Q := ⟨x, d, rfl, h, s.s, line_ok (Nat.le_trans s.l hn), Nat.le_trans s.d hk, q⟩
end Wk

set_option maxRecDepth 100000
set_option maxHeartbeats 4000000
namespace Wk
open PySem PySem.Spec PyProof.Rows L2
local macro_rules | `(tactic| walk_at "mem") => `(tactic| first
  | exact List.mem_cons_self ..
  | exact List.mem_cons_of_mem _ (List.mem_cons_self ..)
  | exact List.mem_cons_of_mem _ (List.mem_cons_of_mem _ (List.mem_cons_self ..))
  | exact List.mem_cons_of_mem _ (List.mem_cons_of_mem _ (List.mem_cons_of_mem _ (List.mem_cons_self ..)))
  | exact List.mem_cons_of_mem _ (List.mem_cons_of_mem _ (List.mem_cons_of_mem _ (List.mem_cons_of_mem _ (List.mem_cons_self ..)))))
local macro_rules | `(tactic| walk_at "dat") => `(tactic| first
  | assumption
  | (refine Ex.of ?_ (by assumption); walk_at "dat"))
local macro_rules | `(tactic| walk_at "ex") => `(tactic| first
  | assumption
  | exact Ex.refl _
  | (refine Ex.trans ?_ (by assumption); walk_at "ex"))
local macro_rules | `(tactic| walk_at "hp") => `(tactic| first
  | assumption
  | exact HI.get (by assumption) (by walk_at "mem")
  | exact HI.dat (by assumption) (by walk_at "dat"))
local macro_rules | `(tactic| walk_at "hi") => `(tactic| first
  | assumption
  | exact HI.swap (by assumption)
  | exact HI.up2 (by assumption)
  | exact HI.up3 (by assumption))
local macro_rules | `(tactic| walk_at "num") => `(tactic| first
  | omega
  | decide
  | exact ⟨by decide, by decide⟩
  | exact cdiv_of (by omega) (by omega)
  | exact ⟨by omega, by omega⟩
  | (refine ⟨by omega, by omega, ?_⟩; omega)
  | exact Or.inl ⟨by omega, by omega⟩
  | exact Or.inr ⟨by omega, by omega⟩)
local macro_rules | `(tactic| walk_at "kn") => `(tactic| first
  | assumption
  | exact Kn.int _
  | exact Kn.str _
  | exact Kn.bl _
  | exact Kn.non
  | exact HI.kn (by assumption) (by assumption)
  | exact HI.kn (by assumption) (Kn.mono (by assumption) (by assumption))
  | exact Kn.lst (by walk_at "hp")
  | exact Kn.tup (by walk_at "hp")
  | exact Kn.dict (by walk_at "hp"))
local macro_rules | `(tactic| walk_at "s1") => `(tactic| first
  | with_reducible refine st_seq ?_
  | with_reducible refine st_asg ?_
  | with_reducible refine st_ret ?_
  | with_reducible refine st_if ?_
  | with_reducible refine st_drop ?_
  | with_reducible refine st_next ?_
  | with_reducible refine st_brk ?_
  | with_reducible refine st_cont ?_
  | with_reducible refine sg_name ?_
  | with_reducible refine sg_sub ?_
  | with_reducible refine sg_nil ?_
  | with_reducible refine sg_cons ?_
  | ((with_reducible refine' sg_tup ?e1 ?e2 ?_); (case e1 => exact SqT.of (by walk_at "hp")); (case e2 => rfl))
  | ((with_reducible refine' se_var ?e1 ?_); (case e1 => rfl))
  | with_reducible refine se_c ?_
  | with_reducible refine se_op ?_
  | with_reducible refine se_un ?_
  | with_reducible refine se_tup ?_
  | with_reducible refine se_lst ?_
  | with_reducible refine se_lstM ?_
  | with_reducible refine st_for ?_
  | with_reducible refine se_lc ?_
  | with_reducible refine it_rng1 ?_
  | with_reducible refine it_rng2 ?_
  | with_reducible refine it_list ?_
  | with_reducible refine it_str ?_
  | with_reducible refine strI_mk ?_
  | ((with_reducible refine' list_mk ?e1 ?_); (case e1 => walk_at "hp"))
  | ((with_reducible refine' rng1_mk ?e1 ?e2 ?_); (case e1 => omega); (case e2 => omega))
  | ((with_reducible refine' rng2_mk ?e1 ?_); (case e1 => omega))
  | with_reducible refine st_yes ?_
  | ((with_reducible refine' al_D ?e1 ?_); (case e1 => assumption); intro _ _ _ _ _ _)
  | ((with_reducible refine' al_M ?e1 ?_); (case e1 => assumption); intro _ _ _)
  | ((with_reducible refine' and_on ?e1 ?_); (case e1 => first | exact small_ok (Nat.le_of_ble_eq_true rfl) | rfl | omega))
  | with_reducible refine sa_nil ?_
  | with_reducible refine sa_cons ?_
  | with_reducible refine se_cb ?_
  | with_reducible refine se_if ?_
  | with_reducible refine st_test ?_
  | with_reducible refine st_B ?_
  | with_reducible refine st_bl ?_
  | with_reducible refine st_and ?_
  | with_reducible refine st_or ?_
  | with_reducible refine st_not ?_
  | with_reducible refine ri0_mk ?_
  | with_reducible refine ru_mk ?_
  | ((with_reducible refine' ri_mk ?e1 ?_); (case e1 => walk_at "num"))
  | with_reducible refine RAdd.int ?_
  | ((with_reducible refine' RMul.int ?e1 ?_); (case e1 => walk_at "num"))
  | with_reducible refine req_int ?_
  | with_reducible refine rne_int ?_
  | with_reducible refine req_str ?_
  | with_reducible refine rne_str ?_
  | ((with_reducible refine' RIx.l ?e1 ?e2 ?_); (case e1 => walk_at "hp"); (case e2 => rfl))
  | ((with_reducible refine' set_c ?e1 ?e2 ?_); (case e1 => assumption); (case e2 => rfl); intro _ _)
  | ((with_reducible refine' set_c2 ?e1 ?e2 ?_); (case e1 => assumption); (case e2 => rfl); intro _ _)
  | ((with_reducible refine' set_c3 ?e1 ?e2 ?_); (case e1 => assumption); (case e2 => rfl); intro _ _)
  | with_reducible refine iteT ?_
  | with_reducible refine iteF ?_
  | ((with_reducible refine' if_yes ?e1 ?_); (case e1 => omega))
  | ((with_reducible refine' if_no ?e1 ?_); (case e1 => omega))
  | ((with_reducible refine' if_yesN ?e1 ?_); (case e1 => omega))
  | ((with_reducible refine' if_noN ?e1 ?_); (case e1 => omega))
  | ((with_reducible refine' RIx.t ?e1 ?e2 ?_); (case e1 => walk_at "hp"); (case e2 => rfl))
  | with_reducible refine se_andV ?_
  | with_reducible refine se_orV ?_
  | with_reducible refine se_notV ?_
  | with_reducible refine se_chain ?_
  | with_reducible refine se_sl ?_
  | with_reducible refine so_none ?_
  | with_reducible refine so_some ?_
  | with_reducible refine so_int ?_
  | with_reducible refine se_m1 ?_
  | with_reducible refine se_m0 ?_
  | with_reducible refine m_str ?_
  | with_reducible refine se_mkE ?_
  | ((with_reducible refine' mkE_now ?e1 ?_); (case e1 => assumption); intro _ _ _ _ _ _ _ _)
  | with_reducible refine st_raiseX ?_
  | ((with_reducible refine' mkX_now ?e1 ?_); (case e1 => assumption); intro _ _ _ _ _ _)
  | with_reducible refine st_par ?_
  | with_reducible refine par_mk ?_
  | ((with_reducible refine' st_aug ?e1 ?_); (case e1 => rfl))
  | ((with_reducible refine' RIsi.ty ?e1 ?e2 ?_); (case e1 => walk_at "kn"); (case e2 => decide))
  | with_reducible refine ris_non ?_
  | with_reducible refine ris_nonN ?_
  | with_reducible refine ris_bl ?_
  | with_reducible refine ris_blN ?_
  | with_reducible refine rin_sign ?_
  | with_reducible refine rni_sign ?_
  | ((with_reducible refine' RLen.str ?e1 ?_); (case e1 => first | exact small_ok (by omega) | exact small_ok (Nat.le_of_ble_eq_true rfl)))
  | ((with_reducible refine' RLen.lst ?e1 ?_); (case e1 => walk_at "hp"))
  | ((with_reducible refine' RLen.frz ?e1 ?_); (case e1 => walk_at "hp"))
  | ((with_reducible refine' RLen.tup ?e1 ?_); (case e1 => walk_at "hp"))
  | (with_reducible refine RMx.mk ?_; intro _ _ _ _)
  | (with_reducible refine RMn.mk ?_; intro _ _ _ _)
  | with_reducible refine RStarts.mk ?_
  | with_reducible refine RFind.mk ?_
  | with_reducible refine RInt.bl ?_
  | ((with_reducible refine' RAll.mk ?e1 ?_); (case e1 => walk_at "hp")))
local macro_rules | `(tactic| walk_at "sx") => `(tactic| repeat (walk_at "s1"; try dsimp only [List.set, Int.reduceToNat]))
local macro_rules | `(tactic| walk_at "go") => `(tactic| (dsimp only [cxOf, L2.start, List.map, List.length, List.replicate, Nat.reduceAdd, Nat.reduceSub, List.replicate, HAppend.hAppend, Append.append, List.append]; walk_at "sx"))
local macro_rules | `(tactic| walk_at "sxm") => `(tactic| repeat (first | ((with_reducible refine' mod_let ?e1 ?_); (case e1 => omega); intro _ _ _) | walk_at "s1"; try dsimp only [List.set, Int.reduceToNat]))
local macro_rules | `(tactic| walk_at "go0") => `(tactic| dsimp only [cxOf, L2.start, List.map, List.length, List.replicate, Nat.reduceAdd, Nat.reduceSub, List.replicate, HAppend.hAppend, Append.append, List.append])

local macro_rules | `(tactic| walk_at "s2") => `(tactic| first
  | walk_at "s1"
  | with_reducible refine se_call1 ?_
  | with_reducible refine se_callN ?_
  | with_reducible refine se_dnewK ?_
  | ((with_reducible refine' se_disp ?e1 ?_); (case e1 => assumption); intro _ _ _)
  | with_reducible refine sp_cons ?_
  | with_reducible refine sp_nil ?_
  | ((with_reducible refine' disp_now ?e1 ?e2 ?e3 ?_); (case e1 => assumption); (case e2 => rfl); (case e3 => exact Nat.le_of_ble_eq_true rfl); intro _ _ _ _ _)
  | ((with_reducible refine' RAdd.lst ?e1 ?e2 ?e3 ?_); (case e1 => walk_at "hp"); (case e2 => walk_at "hp"); (case e3 => exact small_ok (Nat.le_of_ble_eq_true rfl)))
  | ((with_reducible refine' RMul.lst ?e1 ?e2 ?e3 ?e4 ?_); (case e1 => walk_at "hp"); (case e2 => omega); (case e3 => omega); (case e4 => exact small_ok (Nat.le_of_ble_eq_true rfl)))
  | ((with_reducible refine' RStr.int ?e1 ?_); (case e1 => exact log2_small (by omega)))
  | ((with_reducible refine' RSl.str ?e1 ?_); (case e1 => first | exact small_ok (by omega) | exact small_ok (Nat.le_of_ble_eq_true rfl)))
  | ((with_reducible refine' RAdd.str ?e1 ?_); (case e1 => exact small_ok (by omega)))
  | ((with_reducible refine' take_now ?e1 ?e2 ?e3 ?e4 ?e5 ?_); (case e1 => walk_at "hi"); (case e2 => omega); (case e3 => omega); (case e4 => assumption); (case e5 => omega); intro _ _ _ _ _ _ _ _ _))
local macro_rules | `(tactic| walk_at "sy") => `(tactic| repeat (walk_at "s2"; try dsimp only [List.set, Int.reduceToNat]))
local macro_rules | `(tactic| walk_at "sz1") => `(tactic| first
  | ((with_reducible refine' rsl_some ?e1 ?e2 ?_); (case e1 => omega); (case e2 => assumption); intro _ _ _)
  | ((with_reducible refine' radd_some ?e1 ?e2 ?e3 ?_); (case e1 => omega); (case e2 => assumption); (case e3 => assumption); intro _ _ _)
  | ((with_reducible refine' rmul_some ?e1 ?e3 ?e4 ?e5 ?_); (case e1 => rfl); (case e3 => omega); (case e4 => omega); (case e5 => exact sg_of rfl); intro _ _ _)
  | walk_at "s2")
local macro_rules | `(tactic| walk_at "sz") => `(tactic| repeat (walk_at "sz1"; try dsimp only [List.set, Int.reduceToNat]))

local macro_rules | `(tactic| walk_at "s3") => `(tactic| first
  | walk_at "s2"
  | with_reducible refine se_fld ?_
  | with_reducible refine st_fld ?_
  | ((with_reducible refine' fld_mk ?e1 ?e2 ?e3 ?e4 ?_); (case e1 => walk_at "hp"); (case e2 => assumption); (case e3 => walk_at "mem"); (case e4 => rfl))
  | ((with_reducible refine' sfld_now ?e1 ?e2 ?e3 ?e4 ?_); (case e1 => walk_at "hi"); (case e2 => assumption); (case e3 => walk_at "mem"); (case e4 => exact Nat.lt_of_lt_of_le (Nat.lt_succ_self _) (Nat.le_of_ble_eq_true rfl)); intro _ _)
  | with_reducible refine se_meth ?_
  | with_reducible refine se_methN ?_
  | ((with_reducible refine' meth_mk ?e1 ?e2 ?_); (case e1 => walk_at "hp"); (case e2 => rfl))
  | with_reducible refine se_make ?_
  | with_reducible refine se_makeN ?_
  | ((with_reducible refine' make_now ?e1 ?_); (case e1 => assumption); intro _ _ _ _)
  | with_reducible refine se_fmt ?_
  | ((with_reducible refine' RFmt.str ?e1 ?_); (case e1 => omega))
  | ((with_reducible refine' RFmt.int ?e1 ?_); (case e1 => exact log2_small (by omega)))
  | with_reducible refine sj_nil ?_
  | with_reducible refine sj_cons ?_
  | ((with_reducible refine' js_mk ?e1 ?_); (case e1 => omega))
  | ((with_reducible refine' and_on ?e1 ?_); (case e1 => exact small_ok (by simp only [len_app]; omega))))
local macro_rules | `(tactic| walk_at "sc") => `(tactic| repeat (walk_at "s3"; try dsimp only [List.set, Int.reduceToNat]))

local macro_rules | `(tactic| walk_at "s4") => `(tactic| first
  | walk_at "s3"
  | with_reducible refine se_bm ?_
  | with_reducible refine se_bm0 ?_
  | ((with_reducible refine' bm_ty ?e1 ?_); (case e1 => walk_at "hp"))
  | ((with_reducible refine' app_now ?e1 ?e2 ?_); (case e1 => walk_at "hi"); (case e2 => first | omega | exact Nat.lt_of_lt_of_le (Nat.lt_succ_self _) (Nat.le_of_ble_eq_true rfl)); intro _ _))
local macro_rules | `(tactic| walk_at "sd") => `(tactic| repeat (walk_at "s4"; try dsimp only [List.set, Int.reduceToNat]))

local macro_rules | `(tactic| walk_at "s5") => `(tactic| first
  | with_reducible refine rne_same ?_
  | with_reducible refine req_same ?_
  | walk_at "s4"
  | ((with_reducible refine' if_kT ?e1 ?_); (case e1 => first | assumption | rfl))
  | ((with_reducible refine' if_kF ?e1 ?_); (case e1 => first | assumption | rfl))
  | ((with_reducible refine' if_nkT ?e1 ?_); (case e1 => first | assumption | rfl))
  | ((with_reducible refine' if_nkF ?e1 ?_); (case e1 => first | assumption | rfl))
  | ((with_reducible refine' if_tagF ?e1 ?_); (case e1 => rfl))
  | ((with_reducible refine' if_tagN ?e1 ?_); (case e1 => rfl))
  | ((with_reducible refine' if_yes ?e1 ?_); (case e1 => with_reducible rfl))
  | ((with_reducible refine' if_yesN ?e1 ?_); (case e1 => with_reducible rfl))
  | with_reducible refine if_notT ?_
  | with_reducible refine if_notF ?_
  | with_reducible refine it_zip ?_
  | with_reducible refine it_enum ?_
  | with_reducible refine it_tup ?_
  | ((with_reducible refine' zip_mk ?e1 ?e2 ?_); (case e1 => walk_at "hp"); (case e2 => walk_at "hp"))
  | ((with_reducible refine' enum_mk ?e1 ?_); (case e1 => walk_at "hp"))
  | ((with_reducible refine' tupI_mk ?e1 ?_); (case e1 => walk_at "hp"))
  | with_reducible refine st_try ?_
  | with_reducible refine se_by ?_
  | ((with_reducible refine' RTupO.l ?e1 ?_); (case e1 => walk_at "hp"))
  | ((with_reducible refine' RListO.l ?e1 ?_); (case e1 => walk_at "hp"))
  | ((with_reducible refine' RListO.t ?e1 ?_); (case e1 => walk_at "hp"))
  | ((with_reducible refine' RListM.l ?e1 ?_); (case e1 => walk_at "hp")))
local macro_rules | `(tactic| walk_at "se") => `(tactic| repeat (walk_at "s5"; try dsimp only [List.set, Int.reduceToNat]))
local macro_rules | `(tactic| walk_at "sl") => `(tactic| first
  | exact List.Sublist.refl _
  | (refine List.Sublist.cons₂ _ ?_; walk_at "sl")
  | (refine List.Sublist.cons _ ?_; walk_at "sl"))
local macro_rules | `(tactic| walk_at "keep") => `(tactic| exact HI.sublist (by assumption) (by walk_at "sl"))

def spWR (K : PySem.W.Frag) : Sp := fun vs H Q _ => ∃ (v : V) (R : Cells) (D : Hp), vs = [v] ∧ HI H R D ∧ Th K D v ∧ ∀ H' D', HI H' R D' → Ex D D' → Q (.bl true) H'
theorem mem_jn {c : Nat} : ∀ {l : List (List Nat)} {a : List Nat}, a ∈ l → c ∈ a → c ∈ jn l
  | [b], a, h, hc => by
    rw [List.mem_singleton.mp h] at hc
    exact hc
  | b :: d :: r, a, h, hc => by
    show c ∈ b ++ 32 :: jn (d :: r)
    rcases List.mem_cons.mp h with e | h
    · rw [e] at hc
      exact List.mem_append_left _ hc
    · exact List.mem_append_right _ (List.mem_cons_of_mem _ (mem_jn h hc))
theorem words_sm {z : Str} (h : TxtOk z) {ws : List Str} (e : wordsO z = some ws) : Sm (.list (ws.map PyData.str)) 16000000 1 ∧ ws.length ≤ 2000 := by
  have es : ws = Txt.split z " " := by
    unfold wordsO at e
    split at e
    · cases e
    · split at e
      · cases e
      · exact (Option.some.inj e).symm
  have hl := split_le z " "
  rw [← es] at hl
  have zl := h.len
  refine ⟨(Sm.list (n := 10002) (k := 0) fun d hd => ?_).mono ?_ (Nat.le_refl _), by omega⟩
  · obtain ⟨w, hw, rfl⟩ := List.mem_map.mp hd
    rw [es] at hw
    have wl := PyProof.Rows.part_short hw
    have sg : Sg w := fun c hc => by
      refine h.sg c ?_
      have e1 : (Str.join " " (Txt.split z " ")).cps.toList = tl' z := by rw [PySem.StrLaws.join_split]
      rw [join_jn] at e1
      show c ∈ tl' z
      rw [← e1]
      exact mem_jn (List.mem_map.mpr ⟨w, hw, rfl⟩) hc
    exact (Sm.str sg).mono (by omega) (Nat.le_refl _)
  · rw [List.length_map]
    omega
set_option maxHeartbeats 1000000 in
theorem ok_l_words_right {P : Program} {w : World} {K : PySem.W.Frag} {mg : Str → Option Value} {base : Heap} (T : Tx K mg) : FnG P w K mg base 2 (a_l_words_right K) ["text"] (spWR K) := by
  refine T.f_l_words_right.ok sc_l_words_right (fun vs H Q E h => ?_) (fun cdv A outer s H vs Q E hgu hr h => ⟨_, (pss_cons (ps_for (passes_of rfl) rfl (pi_range1 rfl T.n_range (pa_cons pe_int pa_nil)) (pg_name (i := 1) sc_l_words_right.nd rfl (Or.inl rfl)) (pss_cons (ps_set (i := 2) sc_l_words_right.nd rfl (Or.inl rfl) (ge_call (ok_words_of T) hgu (hr.mono (by decide)) rfl T.g_words_of T.k_words_of T.b_words_of .nil (fun _ => pass_takes (takes_of rfl rfl rfl rfl)) (pa_cons (pv 0) pa_nil)))
 (pss_cons (ps_if (pt_cmpR (op_neU hr.units) (pe_callB (call_repr hgu hr T.sys) (by rfl) T.n_repr boot_repr (pa_cons (pv 2) pa_nil)) (pe_callB (call_repr hgu hr T.sys) (by rfl) T.n_repr boot_repr (pa_cons (ge_call (ok_l_words T) hgu (hr.mono (by decide)) rfl T.g_l_words T.k_l_words T.b_l_words .nil (fun _ => pass_takes (takes_of rfl rfl rfl rfl)) (pa_cons (pv 0) pa_nil)) pa_nil)) (nomark _)) (pss_one (ps_ret pe_bl)) pss_nil)
 (pss_one (ps_if (pt_val (pe_callB (show CallR _ (.builtin "isinstance") (RIsi K) from call_isiU) (by rfl) T.n_isinstance boot_isinstance (pa_cons (pv 2) (pa_cons (pe_bltn (v := .ty "list") (by rfl) T.n_list boot_list rfl) pa_nil)))) (pss_cons (ps_expr (pe_bm0 PySem.F.plainAttrs_list PySem.F.slot_list_reverse PySem.F.type_list_reverse mt_reverse (pv 2)))
 (pss_one (ps_expr (pe_bm PySem.F.plainAttrs_list PySem.F.slot_list_append PySem.F.type_list_append mt_append (pv 2) (pa_cons pe_str pa_nil))))) pss_nil)))))
 (pss_one (ps_ret pe_bl))), ?_⟩)
  · obtain ⟨v, R, D, rfl, _⟩ := h
    rfl
  · obtain ⟨v, R, D, rfl, hI, th, go⟩ := h
    walk_at "go"
    walk_at "se"
    refine for_rng (fun i σ R' D' => ∃ (v1 v2 : Option V), σ = [some v, v1, v2] ∧ R' = R ∧ Ex D D') hI ⟨_, _, rfl, rfl, Ex.refl _⟩ (fun i σ R' D' H' hi hI' q => ?_) (fun σ R' D' H' hI' q => ?_)
    · obtain ⟨v1, v2, rfl, rfl, ex⟩ := q
      walk_at "se"
      refine words_use hI' (th.mono ex) (fun hn H1 D1 hI1 x1 => ?_) (fun z ws ev ew p H1 D1 hI1 x1 => ?_)
      · walk_at "se"
        refine repr_sm .non Sm.non (by decide) (by decide) ?_
        walk_at "se"
        refine words_use hI1 (th.mono (by walk_at "ex")) (fun _ H2 D2 hI2 x2 => ?_) (fun z ws ev ew => ?_)
        · walk_at "se"
          refine repr_sm .non Sm.non (by decide) (by decide) ?_
          walk_at "se"
          exact ⟨_, _, hI2, _, _, rfl, rfl, by walk_at "ex"⟩
        · have := hn z ev
          rw [ew] at this
          cases this
      · have tz : TxtOk z := th.2 z ev
        obtain ⟨sm, wl⟩ := words_sm tz ew
        have hwl : (List.map V.str ws).length ≤ 2000 := by rw [List.length_map]; exact wl
        walk_at "se"
        refine repr_sm (.lst (hI1.get (List.mem_cons_self ..)) (rep_strs ws)) sm (by decide) (by decide) ?_
        walk_at "se"
        refine words_use hI1 ((th.mono ex).mono x1) (fun hn => ?_) (fun z' ws' ev' ew' p2 H2 D2 hI2 x2 => ?_)
        · have := hn z ev
          rw [ew] at this
          cases this
        · rw [ev] at ev'
          cases ev'
          rw [ew] at ew'
          cases ew'
          walk_at "se"
          refine repr_sm (.lst (hI2.get (List.mem_cons_self ..)) (rep_strs ws)) sm (by decide) (by decide) ?_
          walk_at "se"
          have hI3 := hI2.drop
          refine rev_now hI3 (fun H4 hI4 => ?_)
          walk_at "se"
          refine app_now hI4 (by rw [List.length_reverse]; omega) (fun H5 hI5 => ?_)
          walk_at "se"
          exact ⟨_, _, hI5.drop, _, _, rfl, rfl, ex.trans (x1.trans x2)⟩
    · obtain ⟨v1, v2, rfl, rfl, ex⟩ := q
      walk_at "se"
      exact go _ _ hI' ex
/-- what comes of the call: told, or the refusal of the very thing -/
def spFig (K : PySem.W.Frag) : Sp := fun vs H Q _ => ∃ (v : V) (R : Cells) (D : Hp), vs = [v] ∧ HI H R D ∧ Mt K R D v ∧
  (∀ i : Int, v = .int i → 0 ≤ i → i ≤ 99 → ∀ p H' D', HI H' R D' → Ex D D' → D' p = some (.lst [.str "told", .str (Txt.zfill (toString i) 2)]) → Q (.ref p) H') ∧
  (wholeB v 0 99 = false → ∀ p H' D', HI H' R D' → Ex D D' → D' p = some (.lst [.str "none", v, .bl true]) → Q (.ref p) H')
set_option maxHeartbeats 1000000 in
theorem ok_l_figures {P : Program} {w : World} {K : PySem.W.Frag} {mg : Str → Option Value} {base : Heap} (T : Tx K mg) : FnG P w K mg base 5 (a_l_figures K) ["number"] (spFig K) := by
  refine T.f_l_figures.ok sc_l_figures (fun vs H Q E h => ?_) (fun cdv A outer s H vs Q E hgu hr h => ⟨_, (pss_one (ps_try_A rfl rfl sc_l_figures.nd (takes_of rfl rfl rfl rfl) (fun W pn xe tk po => (pss_one (ps_ret (pe_lst (pa_cons pe_str (pa_cons (ge_call (ok_two_figures T) hgu (hr.mono (by decide)) rfl T.g_two_figures T.k_two_figures T.b_two_figures .nil (fun _ => pass_takes tk) (pa_cons (pv 0) pa_nil)) pa_nil)))))) (HdsA.asn (i := 1) rfl rfl ⟨rfl, by decide, .inl T.g_NoNumber⟩ (fun a oe cls d pn hz hf => (pss_one (ps_ret (pe_lst (pa_cons pe_str (pa_cons (pe_byX hz hf (pv 1)) (pa_cons (pe_and (pe_callB (call_isEX hz hf) (by rfl) T.n_isinstance boot_isinstance (pa_cons (pv 1) (pa_cons (pe_glob (v := .ref (He.ga K "WeekError")) rfl T.g_WeekError rfl) pa_nil))) (pe_one (pe_not (pe_callB (call_isEX hz hf) (by rfl) T.n_isinstance boot_isinstance (pa_cons (pv 1) (pa_cons (pe_tup (pa_cons (pe_glob (v := .ref (He.ga K "MissError")) rfl T.g_MissError rfl) (pa_cons (pe_glob (v := .ref (He.ga K "NoName")) rfl T.g_NoName rfl) pa_nil))) pa_nil)))))) pa_nil))))))) HdsA.nil))), ?_⟩)
  · obtain ⟨v, R, D, rfl, _⟩ := h
    rfl
  · obtain ⟨v, R, D, rfl, hI, mt, good, bad⟩ := h
    walk_at "go"
    walk_at "se"
    refine ⟨v, R, D, rfl, hI, mt, fun i e i0 i1 H1 hI1 => ?_, fun hb d H1 D1 hI1 x1 ed => ?_⟩
    · walk_at "se"
      exact good i e i0 i1 _ _ _ (by assumption) (by assumption) (by assumption)
    · refine as_yes T.ex_NoNumber_NoNumber (fun a ha => ?_)
      unfold gone
      walk_at "se"
      refine by_mk T.x_NoNumber.E T.x_NoNumber.no (hI1.dat ed) ?_
      walk_at "se"
      refine RIsEX.one rfl T.x_NoNumber.E rfl (hI1.dat ed) T.ki_NoNumber_WeekError ?_
      walk_at "se"
      refine RIsEX.tup (cs := [He.ga K "MissError", He.ga K "NoName"]) rfl T.x_NoNumber.E rfl (HI.dat (by assumption) (show _ = _ by walk_at "dat")) (by walk_at "hp") (kitAny_go T.ki_NoNumber_MissError (kitAny_go T.ki_NoNumber_NoName rfl)) ?_
      walk_at "se"
      exact bad hb _ _ _ (by assumption) (by walk_at "ex") (by assumption)
theorem fig_use {K : PySem.W.Frag} {v : V} {R : Cells} {D H : Hp} {Q : VK} {E : XK} (hI : HI H R D) (mt : Mt K R D v)
    (good : ∀ i : Int, v = .int i → 0 ≤ i → i ≤ 99 → ∀ p H' D', HI H' R D' → Ex D D' → D' p = some (.lst [.str "told", .str (Txt.zfill (toString i) 2)]) → Q (.ref p) H')
    (bad : wholeB v 0 99 = false → ∀ p H' D', HI H' R D' → Ex D D' → D' p = some (.lst [.str "none", v, .bl true]) → Q (.ref p) H') : spFig K [v] H Q E := ⟨v, R, D, rfl, hI, mt, good, bad⟩
theorem fig_at {j : Int} (h0 : 0 ≤ j) (h1 : j ≤ 9) : atI (Str.ofString "0123456789").cps.toList j = some (48 + j.toNat) := by
  have : j = 0 ∨ j = 1 ∨ j = 2 ∨ j = 3 ∨ j = 4 ∨ j = 5 ∨ j = 6 ∨ j = 7 ∨ j = 8 ∨ j = 9 := by omega
  rcases this with rfl | rfl | rfl | rfl | rfl | rfl | rfl | rfl | rfl | rfl <;> rfl
theorem two_nat : ∀ n : Fin 100, Txt.zfill (Str.ofString (toString ((n.1 : Nat) : Int))) 2 = (⟨#[48 + (((n.1 : Nat) : Int) / 10).toNat]⟩ : Str) ++ ⟨#[48 + (((n.1 : Nat) : Int) % 10).toNat]⟩ := by decide +kernel
theorem two_plain {i : Int} (h0 : 0 ≤ i) (h1 : i ≤ 99) : Txt.zfill (Str.ofString (toString i)) 2 = (⟨#[48 + (i / 10).toNat]⟩ : Str) ++ ⟨#[48 + (i % 10).toNat]⟩ := by
  obtain ⟨n, rfl⟩ := Int.eq_ofNat_of_zero_le h0
  exact two_nat ⟨n, by omega⟩
theorem two_ok {i : Int} (h0 : 0 ≤ i) (h1 : i ≤ 99) : PyData.strOk (Txt.zfill (Str.ofString (toString i)) 2) = true := by
  rw [two_plain h0 h1]
  refine TxtOk.ok ⟨by rw [len_app]; exact Nat.le_of_ble_eq_true rfl, fun c hc => ?_⟩
  rw [tl_app] at hc
  rcases List.mem_append.mp hc with q | q
  · have : c = 48 + (i / 10).toNat := by simpa using q
    omega
  · have : c = 48 + (i % 10).toNat := by simpa using q
    omega
theorem none_sm {d : PyData} (s : Sm d 100 3) : Sm (.list [.str "none", d, .bool true]) 1000 4 := by
  refine (Sm.list (n := 120) (k := 3) (all_c ?_ (all_c (s.mono (by decide) (by decide)) (all_c ((Sm.bl true).mono (by decide) (by decide)) all_n)))).mono (Nat.le_of_ble_eq_true rfl) (by decide)
  exact (Sm.str (z := Str.ofString "none") (sg_of rfl)).mono (by decide +kernel) (by decide)
def spFR (K : PySem.W.Frag) : Sp := fun vs H Q _ => ∃ (b : Addr) (R : Cells) (D : Hp) (x y z : Int) (n : Nat), vs = [.ref b] ∧ HI H ((b, bx x y z) :: R) D ∧ BoxOk n x y z ∧ n + 100 < 1000000 ∧
  ∀ x' y' z' n' H' D', HI H' ((b, bx x' y' z') :: R) D' → Ex D D' → BoxOk n' x' y' z' → n' ≤ n + 3 → Q (.bl true) H'
set_option maxHeartbeats 2000000 in
theorem ok_l_figures_right {P : Program} {w : World} {K : PySem.W.Frag} {mg : Str → Option Value} {base : Heap} (T : Tx K mg) : FnG P w K mg base 6 (a_l_figures_right K) ["box"] (spFR K) := by
  refine T.f_l_figures_right.ok sc_l_figures_right (fun vs H Q E h => ?_) (fun cdv A outer s H vs Q E hgu hr h => ⟨_, (pss_cons (ps_set (i := 1) sc_l_figures_right.nd rfl (Or.inl rfl) (pe_lst (pa_cons (ge_call (ok_l_take T) hgu (hr.mono (by decide)) rfl T.g_l_take T.k_l_take T.b_l_take .nil (fun _ => pass_takes (takes_of rfl rfl rfl rfl)) (pa_cons (pv 0) (pa_cons pe_int pa_nil))) (pa_cons (ge_call (ok_l_take T) hgu (hr.mono (by decide)) rfl T.g_l_take T.k_l_take T.b_l_take .nil (fun _ => pass_takes (takes_of rfl rfl rfl rfl)) (pa_cons (pv 0) (pa_cons pe_int pa_nil))) (pa_cons pe_int (pa_cons pe_int (pa_cons pe_int (pa_cons (pe_un un_neg pe_int) (pa_cons pe_bl (pa_cons pe_non (pa_cons pe_str (pa_cons (pe_lstM (pa_cons pe_int pa_nil)) (pa_cons (pe_tup (pa_cons pe_int pa_nil)) (pa_cons (pe_dnewK) (pa_cons (pe_op op_pow pe_int pe_int) (pa_cons (pe_lstM (pa_cons (pe_lst pa_nil) pa_nil)) pa_nil))))))))))))))))
 (pss_cons (ps_set (i := 2) sc_l_figures_right.nd rfl (Or.inl rfl) (pe_ix ix_U (pv 1) (ge_call (ok_l_take T) hgu (hr.mono (by decide)) rfl T.g_l_take T.k_l_take T.b_l_take .nil (fun _ => pass_takes (takes_of rfl rfl rfl rfl)) (pa_cons (pv 0) (pa_cons pe_int pa_nil))) (fun _ _ => rfl)))
 (pss_cons (ps_set (i := 3) sc_l_figures_right.nd rfl (Or.inl rfl) (ge_call (ok_l_figures T) hgu (hr.mono (by decide)) rfl T.g_l_figures T.k_l_figures T.b_l_figures .nil (fun _ => pass_takes (takes_of rfl rfl rfl rfl)) (pa_cons (pv 2) pa_nil)))
 (pss_cons (ps_if (PW.pt (pw_and (pt_val (pe_callB (show CallR _ (.builtin "isinstance") (RIsi K) from call_isiU) (by rfl) T.n_isinstance boot_isinstance (pa_cons (pv 2) (pa_cons (pe_bltn (v := .ty "int") (by rfl) T.n_int boot_int rfl) pa_nil)))) (pw_and (pt_cmpR op_isnU (pv 2) pe_bl (nomark _)) (pw_and (pt_cmpR op_le pe_int (pv 2) (nomark _)) (pw_and1 (pt_cmpR op_lt (pv 2) pe_int (nomark _))))))) (pss_one (ps_ret (pe_cmpR (op_eqU hr.units) (pv 3) (pe_lst (pa_cons pe_str (pa_cons (pe_op op_addU (pe_ix ix_U pe_str (pe_op op_fdivW (pv 2) pe_int) (fun _ _ => rfl)) (pe_ix ix_U pe_str (pe_op op_mod (pv 2) pe_int) (fun _ _ => rfl))) pa_nil))) (nomark _)))) pss_nil)
 (pss_cons (ps_if (pt_val (pe_callB (show CallR _ (.builtin "isinstance") (RIsi K) from call_isiU) (by rfl) T.n_isinstance boot_isinstance (pa_cons (pv 2) (pa_cons (pe_bltn (v := .ty "list") (by rfl) T.n_list boot_list rfl) pa_nil)))) (pss_one (ps_expr (pe_bm PySem.F.plainAttrs_list PySem.F.slot_list_append PySem.F.type_list_append mt_append (pv 2) (pa_cons pe_str pa_nil)))) pss_nil)
 (pss_one (ps_ret (pe_cmpR (op_eqU hr.units) (pe_callB (call_repr hgu hr T.sys) (by rfl) T.n_repr boot_repr (pa_cons (pv 3) pa_nil)) (pe_callB (call_repr hgu hr T.sys) (by rfl) T.n_repr boot_repr (pa_cons (pe_lst (pa_cons pe_str (pa_cons (pv 2) (pa_cons pe_bl pa_nil)))) pa_nil)) (nomark _))))))))), ?_⟩)
  · obtain ⟨b, R, D, x, y, z, n, rfl, _⟩ := h
    rfl
  · obtain ⟨b, R, D, x, y, z, n, rfl, hI, hb, hn, go⟩ := h
    walk_at "go"
    walk_at "se"
    rename_i r1 _ _ _ _ _ _ r10 r11 r2 _ _ _ _ _ _ r20 r21 p7 H7 hI7 pt _ _ hIt xt et pd _ _ hId xd ed q9 H8 D8 hI8 x8 e8 p9 H9 hI9 ps HS DS hIS xS eS r3 x3 y3 z3 HT hIT boT r30 r31
    have etS : DS pt = some (.tup [.int 7]) := by walk_at "dat"
    have edS : DS pd = some (.dK []) := by walk_at "dat"
    have e8S : DS q9 = some (.lst []) := by walk_at "dat"
    have xDS : Ex D DS := by walk_at "ex"
    refine RIx.pick (P := fun v => (∃ i : Int, v = .int i ∧ 0 ≤ i ∧ i ≤ 99) ∨ (∃ i : Int, v = .int i ∧ ¬ (0 ≤ i ∧ i < 100) ∧ i.natAbs < 10 ^ 30) ∨ v = .bl true ∨ (∃ k d, Kn K DS v k ∧ k.is "int" = false ∧ k.is "list" = false ∧ Rep DS v d ∧ Sm d 100 3 ∧ (∀ z, v = .str z → TxtOk z)) ∨ v = .ref p7 ∨ v = .ref p9) (by walk_at "hp") ?_ (by assumption) (by assumption) (fun v hv => ?_)
    · exact (all_c (.inl ⟨_, rfl, by omega, by omega⟩) (all_c (.inl ⟨_, rfl, by omega, by omega⟩) (all_c (.inl ⟨_, rfl, by omega, by omega⟩) (all_c (.inl ⟨_, rfl, by omega, by omega⟩) (all_c (.inr (.inl ⟨_, rfl, by omega, by omega⟩)) (all_c (.inr (.inl ⟨_, rfl, by omega, by omega⟩)) (all_c (.inr (.inr (.inl rfl))) (all_c (.inr (.inr (.inr (.inl ⟨.non, _, .non, rfl, rfl, .non, Sm.non.mono (by decide) (by decide), fun z e => by cases e⟩)))) (all_c (.inr (.inr (.inr (.inl ⟨.str, _, .str _, rfl, rfl, .str _, (Sm.str (sg_of rfl)).mono (by decide) (by decide), fun z e => by cases e; exact txt_of rfl⟩)))) (all_c (.inr (.inr (.inr (.inr (.inl rfl))))) (all_c (.inr (.inr (.inr (.inl ⟨.tup, _, .tup etS, rfl, rfl, .tup etS (.cons (.int 7) .nil), ⟨by decide +kernel, by decide +kernel, by decide +kernel⟩, fun z e => by cases e⟩)))) (all_c (.inr (.inr (.inr (.inl ⟨.dict, _, .dict edS, rfl, rfl, .dict edS .nil, ⟨by decide +kernel, by decide +kernel, by decide +kernel⟩, fun z e => by cases e⟩)))) (all_c (.inr (.inl ⟨_, rfl, by omega, by omega⟩)) (all_c (.inr (.inr (.inr (.inr (.inr rfl))))) all_n))))))))))))))
    · rcases hv with ⟨i, rfl, i0, i1⟩ | ⟨i, rfl, hn1, hn2⟩ | rfl | ⟨k, d, kn, ki, kl, rep, sm, htx⟩ | rfl | rfl
      · walk_at "se"
        refine fig_use hIT (Th.kn (.int i)).m (fun j e j0 j1 f H1 D1 hI1 x1 ef => ?_) (fun hb => ?_)
        · cases e
          walk_at "se"
          refine RIx.s (small_ok (Nat.le_of_ble_eq_true rfl)) (fig_at (by omega) (by omega)) ?_
          walk_at "se"
          refine RIx.s (small_ok (Nat.le_of_ble_eq_true rfl)) (fig_at (by omega) (by omega)) ?_
          refine RAdd.str (small_ok (Nat.le_of_ble_eq_true rfl)) ?_
          walk_at "se"
          rename_i g HU DU hIU xU eU
          rw [← two_plain i0 i1] at eU
          refine req_dat (d := .list [.str "told", .str (Txt.zfill (Str.ofString (toString i)) 2)]) (e := .list [.str "told", .str (Txt.zfill (Str.ofString (toString i)) 2)]) (.lst (by walk_at "hp") (.cons (.str _) (.cons (.str _) .nil))) (.lst (by walk_at "hp") (.cons (.str _) (.cons (.str _) .nil))) (by simp [PyData.hasDict, PyData.hasDictAll]) (by simp [PyData.hasDict, PyData.hasDictAll]) ?_ ?_ ?_
          · exact strs_shaped (ys := [Str.ofString "told", Txt.zfill (Str.ofString (toString i)) 2]) (all_c (txt_of rfl).ok (all_c (two_ok i0 i1) all_n))
          · exact strs_shaped (ys := [Str.ofString "told", Txt.zfill (Str.ofString (toString i)) 2]) (all_c (txt_of rfl).ok (all_c (two_ok i0 i1) all_n))
          · rw [show PyData.eqv (.list [.str "told", .str (Txt.zfill (Str.ofString (toString i)) 2)]) (.list [.str "told", .str (Txt.zfill (Str.ofString (toString i)) 2)]) = true from by simp [PyData.eqv, PyData.eqvAll]]
            exact go _ _ _ _ _ _ (by walk_at "keep") (by walk_at "ex") boT (by omega)
        · rw [whole_ok i0 i1] at hb
          cases hb
      · walk_at "se"
        refine fig_use hIT (Th.kn (.int i)).m (fun j e j0 j1 => ?_) (fun hb f H1 D1 hI1 x1 ef => ?_)
        · cases e
          exact absurd ⟨j0, by omega⟩ hn1
        · walk_at "se"
          by_cases h0 : 0 ≤ i
          · rw [decide_eq_true h0]
            walk_at "se"
            walk_at "se"
            walk_at "se"
            have rf : Rep D1 (.ref f) (.list [.str "none", .int i, .bool true]) := .lst ef (.cons (.str _) (.cons (.int i) (.cons (.bl true) .nil)))
            refine repr_sm (hI1.rep rf) (none_sm ((Sm.int hn2).mono (by decide) (by decide))) (by decide) (by decide) ?_
            walk_at "se"
            refine repr_sm (d := .list [.str "none", .int i, .bool true]) (.lst (by walk_at "hp") (.cons (.str _) (.cons (HI.rep (by assumption) (Rep.mono (by assumption) (.int i))) (.cons (.bl true) .nil)))) (none_sm ((Sm.int hn2).mono (by decide) (by decide))) (by decide) (by decide) ?_
            refine req_same ?_
            exact go _ _ _ _ _ _ (by walk_at "keep") (by walk_at "ex") boT (by omega)
          · rw [decide_eq_false h0]
            walk_at "se"
            walk_at "se"
            have rf : Rep D1 (.ref f) (.list [.str "none", .int i, .bool true]) := .lst ef (.cons (.str _) (.cons (.int i) (.cons (.bl true) .nil)))
            refine repr_sm (hI1.rep rf) (none_sm ((Sm.int hn2).mono (by decide) (by decide))) (by decide) (by decide) ?_
            walk_at "se"
            refine repr_sm (d := .list [.str "none", .int i, .bool true]) (.lst (by walk_at "hp") (.cons (.str _) (.cons (HI.rep (by assumption) (Rep.mono (by assumption) (.int i))) (.cons (.bl true) .nil)))) (none_sm ((Sm.int hn2).mono (by decide) (by decide))) (by decide) (by decide) ?_
            refine req_same ?_
            exact go _ _ _ _ _ _ (by walk_at "keep") (by walk_at "ex") boT (by omega)
      · walk_at "se"
        refine fig_use hIT (Th.kn (.bl true)).m (fun j e j0 j1 => ?_) (fun hb f H1 D1 hI1 x1 ef => ?_)
        · cases e
        · walk_at "se"
          walk_at "se"
          walk_at "se"
          have rf : Rep D1 (.ref f) (.list [.str "none", .bool true, .bool true]) := .lst ef (.cons (.str _) (.cons (.bl true) (.cons (.bl true) .nil)))
          refine repr_sm (hI1.rep rf) (none_sm ((Sm.bl true).mono (by decide) (by decide))) (by decide) (by decide) ?_
          walk_at "se"
          refine repr_sm (d := .list [.str "none", .bool true, .bool true]) (.lst (by walk_at "hp") (.cons (.str _) (.cons (HI.rep (by assumption) (Rep.mono (by assumption) (.bl true))) (.cons (.bl true) .nil)))) (none_sm ((Sm.bl true).mono (by decide) (by decide))) (by decide) (by decide) ?_
          refine req_same ?_
          exact go _ _ _ _ _ _ (by walk_at "keep") (by walk_at "ex") boT (by omega)
      · walk_at "se"
        refine fig_use hIT (Th.m ⟨⟨k, kn⟩, htx⟩) (fun j e j0 j1 => ?_) (fun hb f H1 D1 hI1 x1 ef => ?_)
        · exact absurd e ((kn.not_int ki).1 j)
        · walk_at "se"
          walk_at "se"
          walk_at "se"
          have rf : Rep D1 (.ref f) (.list [.str "none", d, .bool true]) := .lst ef (.cons (.str _) (.cons (Rep.mono x1 rep) (.cons (.bl true) .nil)))
          refine repr_sm (hI1.rep rf) (none_sm sm) (by decide) (by decide) ?_
          walk_at "se"
          refine repr_sm (d := .list [.str "none", d, .bool true]) (.lst (by walk_at "hp") (.cons (.str _) (.cons (HI.rep (by assumption) (Rep.mono (by assumption) (Rep.mono x1 rep))) (.cons (.bl true) .nil)))) (none_sm sm) (by decide) (by decide) ?_
          refine req_same ?_
          exact go _ _ _ _ _ _ (by walk_at "keep") (by walk_at "ex") boT (by omega)
      · walk_at "se"
        refine fig_use hIT (Mt.at (by walk_at "mem")) (fun j e j0 j1 => ?_) (fun hb f H1 D1 hI1 x1 ef => ?_)
        · cases e
        · walk_at "se"
          have rn : ∀ {H : Hp} {D' : Hp} {R' : Cells}, HI H R' D' → ((p7, HO.lst ([V.int 7] ++ [V.str (Str.ofString "more")])) : Addr × HO) ∈ R' → Ex DS D' → Rep H (.ref p7) (.list [.int 7, .str "more"]) := fun h m x => .lst (h.get m) (.cons (.int 7) (.cons (.str _) .nil))
          refine repr_sm (d := .list [.str "none", .list [.int 7, .str "more"], .bool true]) (.lst (by walk_at "hp") (.cons (.str _) (.cons (rn (by assumption) (by walk_at "mem") (by walk_at "ex")) (.cons (.bl true) .nil)))) (none_sm ⟨by decide +kernel, by decide +kernel, by decide +kernel⟩) (by decide) (by decide) ?_
          walk_at "se"
          refine repr_sm (d := .list [.str "none", .list [.int 7, .str "more"], .bool true]) (.lst (by walk_at "hp") (.cons (.str _) (.cons (rn (by assumption) (by walk_at "mem") (by walk_at "ex")) (.cons (.bl true) .nil)))) (none_sm ⟨by decide +kernel, by decide +kernel, by decide +kernel⟩) (by decide) (by decide) ?_
          refine req_same ?_
          exact go _ _ _ _ _ _ (by walk_at "keep") (by walk_at "ex") boT (by omega)
      · walk_at "se"
        refine fig_use hIT (Mt.at (by walk_at "mem")) (fun j e j0 j1 => ?_) (fun hb f H1 D1 hI1 x1 ef => ?_)
        · cases e
        · walk_at "se"
          have rn : ∀ {H : Hp} {D' : Hp} {R' : Cells}, HI H R' D' → ((p9, HO.lst ([V.ref q9] ++ [V.str (Str.ofString "more")])) : Addr × HO) ∈ R' → Ex DS D' → Rep H (.ref p9) (.list [.list [], .str "more"]) := fun h m x => .lst (h.get m) (.cons (.lst (h.dat (x _ _ e8S)) .nil) (.cons (.str _) .nil))
          refine repr_sm (d := .list [.str "none", .list [.list [], .str "more"], .bool true]) (.lst (by walk_at "hp") (.cons (.str _) (.cons (rn (by assumption) (by walk_at "mem") (by walk_at "ex")) (.cons (.bl true) .nil)))) (none_sm ⟨by decide +kernel, by decide +kernel, by decide +kernel⟩) (by decide) (by decide) ?_
          walk_at "se"
          refine repr_sm (d := .list [.str "none", .list [.list [], .str "more"], .bool true]) (.lst (by walk_at "hp") (.cons (.str _) (.cons (rn (by assumption) (by walk_at "mem") (by walk_at "ex")) (.cons (.bl true) .nil)))) (none_sm ⟨by decide +kernel, by decide +kernel, by decide +kernel⟩) (by decide) (by decide) ?_
          refine req_same ?_
          exact go _ _ _ _ _ _ (by walk_at "keep") (by walk_at "ex") boT (by omega)
end Wk

set_option maxRecDepth 100000
set_option maxHeartbeats 4000000
namespace Wk
open PySem PySem.Spec PyProof.Rows L2
local macro_rules | `(tactic| walk_at "mem") => `(tactic| first
  | exact List.mem_cons_self ..
  | exact List.mem_cons_of_mem _ (List.mem_cons_self ..)
  | exact List.mem_cons_of_mem _ (List.mem_cons_of_mem _ (List.mem_cons_self ..))
  | exact List.mem_cons_of_mem _ (List.mem_cons_of_mem _ (List.mem_cons_of_mem _ (List.mem_cons_self ..)))
  | exact List.mem_cons_of_mem _ (List.mem_cons_of_mem _ (List.mem_cons_of_mem _ (List.mem_cons_of_mem _ (List.mem_cons_self ..)))))
local macro_rules | `(tactic| walk_at "dat") => `(tactic| first
  | assumption
  | (refine Ex.of ?_ (by assumption); walk_at "dat"))
local macro_rules | `(tactic| walk_at "ex") => `(tactic| first
  | assumption
  | exact Ex.refl _
  | (refine Ex.trans ?_ (by assumption); walk_at "ex"))
local macro_rules | `(tactic| walk_at "hp") => `(tactic| first
  | assumption
  | exact HI.get (by assumption) (by walk_at "mem")
  | exact HI.dat (by assumption) (by walk_at "dat"))
local macro_rules | `(tactic| walk_at "hi") => `(tactic| first
  | assumption
  | exact HI.swap (by assumption)
  | exact HI.up2 (by assumption)
  | exact HI.up3 (by assumption))
local macro_rules | `(tactic| walk_at "num") => `(tactic| first
  | omega
  | decide
  | exact ⟨by decide, by decide⟩
  | exact cdiv_of (by omega) (by omega)
  | exact ⟨by omega, by omega⟩
  | (refine ⟨by omega, by omega, ?_⟩; omega)
  | exact Or.inl ⟨by omega, by omega⟩
  | exact Or.inr ⟨by omega, by omega⟩)
local macro_rules | `(tactic| walk_at "kn") => `(tactic| first
  | assumption
  | exact Kn.int _
  | exact Kn.str _
  | exact Kn.bl _
  | exact Kn.non
  | exact HI.kn (by assumption) (by assumption)
  | exact HI.kn (by assumption) (Kn.mono (by assumption) (by assumption))
  | exact Kn.lst (by walk_at "hp")
  | exact Kn.tup (by walk_at "hp")
  | exact Kn.dict (by walk_at "hp"))
local macro_rules | `(tactic| walk_at "s1") => `(tactic| first
  | with_reducible refine st_seq ?_
  | with_reducible refine st_asg ?_
  | with_reducible refine st_ret ?_
  | with_reducible refine st_if ?_
  | with_reducible refine st_drop ?_
  | with_reducible refine st_next ?_
  | with_reducible refine st_brk ?_
  | with_reducible refine st_cont ?_
  | with_reducible refine sg_name ?_
  | with_reducible refine sg_sub ?_
  | with_reducible refine sg_nil ?_
  | with_reducible refine sg_cons ?_
  | ((with_reducible refine' sg_tup ?e1 ?e2 ?_); (case e1 => exact SqT.of (by walk_at "hp")); (case e2 => rfl))
  | ((with_reducible refine' se_var ?e1 ?_); (case e1 => rfl))
  | with_reducible refine se_c ?_
  | with_reducible refine se_op ?_
  | with_reducible refine se_un ?_
  | with_reducible refine se_tup ?_
  | with_reducible refine se_lst ?_
  | with_reducible refine se_lstM ?_
  | with_reducible refine st_for ?_
  | with_reducible refine se_lc ?_
  | with_reducible refine it_rng1 ?_
  | with_reducible refine it_rng2 ?_
  | with_reducible refine it_list ?_
  | with_reducible refine it_str ?_
  | with_reducible refine strI_mk ?_
  | ((with_reducible refine' list_mk ?e1 ?_); (case e1 => walk_at "hp"))
  | ((with_reducible refine' rng1_mk ?e1 ?e2 ?_); (case e1 => omega); (case e2 => omega))
  | ((with_reducible refine' rng2_mk ?e1 ?_); (case e1 => omega))
  | with_reducible refine st_yes ?_
  | ((with_reducible refine' al_D ?e1 ?_); (case e1 => assumption); intro _ _ _ _ _ _)
  | ((with_reducible refine' al_M ?e1 ?_); (case e1 => assumption); intro _ _ _)
  | ((with_reducible refine' and_on ?e1 ?_); (case e1 => first | exact small_ok (Nat.le_of_ble_eq_true rfl) | rfl | omega))
  | with_reducible refine sa_nil ?_
  | with_reducible refine sa_cons ?_
  | with_reducible refine se_cb ?_
  | with_reducible refine se_if ?_
  | with_reducible refine st_test ?_
  | with_reducible refine st_B ?_
  | with_reducible refine st_bl ?_
  | with_reducible refine st_and ?_
  | with_reducible refine st_or ?_
  | with_reducible refine st_not ?_
  | with_reducible refine ri0_mk ?_
  | with_reducible refine ru_mk ?_
  | ((with_reducible refine' ri_mk ?e1 ?_); (case e1 => walk_at "num"))
  | with_reducible refine RAdd.int ?_
  | ((with_reducible refine' RMul.int ?e1 ?_); (case e1 => walk_at "num"))
  | with_reducible refine req_int ?_
  | with_reducible refine rne_int ?_
  | with_reducible refine req_str ?_
  | with_reducible refine rne_str ?_
  | ((with_reducible refine' RIx.l ?e1 ?e2 ?_); (case e1 => walk_at "hp"); (case e2 => rfl))
  | ((with_reducible refine' set_c ?e1 ?e2 ?_); (case e1 => assumption); (case e2 => rfl); intro _ _)
  | ((with_reducible refine' set_c2 ?e1 ?e2 ?_); (case e1 => assumption); (case e2 => rfl); intro _ _)
  | ((with_reducible refine' set_c3 ?e1 ?e2 ?_); (case e1 => assumption); (case e2 => rfl); intro _ _)
  | with_reducible refine iteT ?_
  | with_reducible refine iteF ?_
  | ((with_reducible refine' if_yes ?e1 ?_); (case e1 => omega))
  | ((with_reducible refine' if_no ?e1 ?_); (case e1 => omega))
  | ((with_reducible refine' if_yesN ?e1 ?_); (case e1 => omega))
  | ((with_reducible refine' if_noN ?e1 ?_); (case e1 => omega))
  | ((with_reducible refine' RIx.t ?e1 ?e2 ?_); (case e1 => walk_at "hp"); (case e2 => rfl))
  | with_reducible refine se_andV ?_
  | with_reducible refine se_orV ?_
  | with_reducible refine se_notV ?_
  | with_reducible refine se_chain ?_
  | with_reducible refine se_sl ?_
  | with_reducible refine so_none ?_
  | with_reducible refine so_some ?_
  | with_reducible refine so_int ?_
  | with_reducible refine se_m1 ?_
  | with_reducible refine se_m0 ?_
  | with_reducible refine m_str ?_
  | with_reducible refine se_mkE ?_
  | ((with_reducible refine' mkE_now ?e1 ?_); (case e1 => assumption); intro _ _ _ _ _ _ _ _)
  | with_reducible refine st_raiseX ?_
  | ((with_reducible refine' mkX_now ?e1 ?_); (case e1 => assumption); intro _ _ _ _ _ _)
  | with_reducible refine st_par ?_
  | with_reducible refine par_mk ?_
  | ((with_reducible refine' st_aug ?e1 ?_); (case e1 => rfl))
  | ((with_reducible refine' RIsi.ty ?e1 ?e2 ?_); (case e1 => walk_at "kn"); (case e2 => decide))
  | with_reducible refine ris_non ?_
  | with_reducible refine ris_nonN ?_
  | with_reducible refine ris_bl ?_
  | with_reducible refine ris_blN ?_
  | with_reducible refine rin_sign ?_
  | with_reducible refine rni_sign ?_
  | ((with_reducible refine' RLen.str ?e1 ?_); (case e1 => first | exact small_ok (by omega) | exact small_ok (Nat.le_of_ble_eq_true rfl)))
  | ((with_reducible refine' RLen.lst ?e1 ?_); (case e1 => walk_at "hp"))
  | ((with_reducible refine' RLen.frz ?e1 ?_); (case e1 => walk_at "hp"))
  | ((with_reducible refine' RLen.tup ?e1 ?_); (case e1 => walk_at "hp"))
  | (with_reducible refine RMx.mk ?_; intro _ _ _ _)
  | (with_reducible refine RMn.mk ?_; intro _ _ _ _)
  | with_reducible refine RStarts.mk ?_
  | with_reducible refine RFind.mk ?_
  | with_reducible refine RInt.bl ?_
  | ((with_reducible refine' RAll.mk ?e1 ?_); (case e1 => walk_at "hp")))
local macro_rules | `(tactic| walk_at "sx") => `(tactic| repeat (walk_at "s1"; try dsimp only [List.set, Int.reduceToNat]))
local macro_rules | `(tactic| walk_at "go") => `(tactic| (dsimp only [cxOf, L2.start, List.map, List.length, List.replicate, Nat.reduceAdd, Nat.reduceSub, List.replicate, HAppend.hAppend, Append.append, List.append]; walk_at "sx"))
local macro_rules | `(tactic| walk_at "sxm") => `(tactic| repeat (first | ((with_reducible refine' mod_let ?e1 ?_); (case e1 => omega); intro _ _ _) | walk_at "s1"; try dsimp only [List.set, Int.reduceToNat]))
local macro_rules | `(tactic| walk_at "go0") => `(tactic| dsimp only [cxOf, L2.start, List.map, List.length, List.replicate, Nat.reduceAdd, Nat.reduceSub, List.replicate, HAppend.hAppend, Append.append, List.append])

local macro_rules | `(tactic| walk_at "s2") => `(tactic| first
  | walk_at "s1"
  | with_reducible refine se_call1 ?_
  | with_reducible refine se_callN ?_
  | with_reducible refine se_dnewK ?_
  | ((with_reducible refine' se_disp ?e1 ?_); (case e1 => assumption); intro _ _ _)
  | with_reducible refine sp_cons ?_
  | with_reducible refine sp_nil ?_
  | ((with_reducible refine' disp_now ?e1 ?e2 ?e3 ?_); (case e1 => assumption); (case e2 => rfl); (case e3 => exact Nat.le_of_ble_eq_true rfl); intro _ _ _ _ _)
  | ((with_reducible refine' RAdd.lst ?e1 ?e2 ?e3 ?_); (case e1 => walk_at "hp"); (case e2 => walk_at "hp"); (case e3 => exact small_ok (Nat.le_of_ble_eq_true rfl)))
  | ((with_reducible refine' RMul.lst ?e1 ?e2 ?e3 ?e4 ?_); (case e1 => walk_at "hp"); (case e2 => omega); (case e3 => omega); (case e4 => exact small_ok (Nat.le_of_ble_eq_true rfl)))
  | ((with_reducible refine' RStr.int ?e1 ?_); (case e1 => exact log2_small (by omega)))
  | ((with_reducible refine' RSl.str ?e1 ?_); (case e1 => first | exact small_ok (by omega) | exact small_ok (Nat.le_of_ble_eq_true rfl)))
  | ((with_reducible refine' RAdd.str ?e1 ?_); (case e1 => exact small_ok (by omega)))
  | ((with_reducible refine' take_now ?e1 ?e2 ?e3 ?e4 ?e5 ?_); (case e1 => walk_at "hi"); (case e2 => omega); (case e3 => omega); (case e4 => assumption); (case e5 => omega); intro _ _ _ _ _ _ _ _ _))
local macro_rules | `(tactic| walk_at "sy") => `(tactic| repeat (walk_at "s2"; try dsimp only [List.set, Int.reduceToNat]))
local macro_rules | `(tactic| walk_at "sz1") => `(tactic| first
  | ((with_reducible refine' rsl_some ?e1 ?e2 ?_); (case e1 => omega); (case e2 => assumption); intro _ _ _)
  | ((with_reducible refine' radd_some ?e1 ?e2 ?e3 ?_); (case e1 => omega); (case e2 => assumption); (case e3 => assumption); intro _ _ _)
  | ((with_reducible refine' rmul_some ?e1 ?e3 ?e4 ?e5 ?_); (case e1 => rfl); (case e3 => omega); (case e4 => omega); (case e5 => exact sg_of rfl); intro _ _ _)
  | walk_at "s2")
local macro_rules | `(tactic| walk_at "sz") => `(tactic| repeat (walk_at "sz1"; try dsimp only [List.set, Int.reduceToNat]))

local macro_rules | `(tactic| walk_at "s3") => `(tactic| first
  | walk_at "s2"
  | with_reducible refine se_fld ?_
  | with_reducible refine st_fld ?_
  | ((with_reducible refine' fld_mk ?e1 ?e2 ?e3 ?e4 ?_); (case e1 => walk_at "hp"); (case e2 => assumption); (case e3 => walk_at "mem"); (case e4 => rfl))
  | ((with_reducible refine' sfld_now ?e1 ?e2 ?e3 ?e4 ?_); (case e1 => walk_at "hi"); (case e2 => assumption); (case e3 => walk_at "mem"); (case e4 => exact Nat.lt_of_lt_of_le (Nat.lt_succ_self _) (Nat.le_of_ble_eq_true rfl)); intro _ _)
  | with_reducible refine se_meth ?_
  | with_reducible refine se_methN ?_
  | ((with_reducible refine' meth_mk ?e1 ?e2 ?_); (case e1 => walk_at "hp"); (case e2 => rfl))
  | with_reducible refine se_make ?_
  | with_reducible refine se_makeN ?_
  | ((with_reducible refine' make_now ?e1 ?_); (case e1 => assumption); intro _ _ _ _)
  | with_reducible refine se_fmt ?_
  | ((with_reducible refine' RFmt.str ?e1 ?_); (case e1 => omega))
  | ((with_reducible refine' RFmt.int ?e1 ?_); (case e1 => exact log2_small (by omega)))
  | with_reducible refine sj_nil ?_
  | with_reducible refine sj_cons ?_
  | ((with_reducible refine' js_mk ?e1 ?_); (case e1 => omega))
  | ((with_reducible refine' and_on ?e1 ?_); (case e1 => exact small_ok (by simp only [len_app]; omega))))
local macro_rules | `(tactic| walk_at "sc") => `(tactic| repeat (walk_at "s3"; try dsimp only [List.set, Int.reduceToNat]))

local macro_rules | `(tactic| walk_at "s4") => `(tactic| first
  | walk_at "s3"
  | with_reducible refine se_bm ?_
  | with_reducible refine se_bm0 ?_
  | ((with_reducible refine' bm_ty ?e1 ?_); (case e1 => walk_at "hp"))
  | ((with_reducible refine' app_now ?e1 ?e2 ?_); (case e1 => walk_at "hi"); (case e2 => first | omega | exact Nat.lt_of_lt_of_le (Nat.lt_succ_self _) (Nat.le_of_ble_eq_true rfl)); intro _ _))
local macro_rules | `(tactic| walk_at "sd") => `(tactic| repeat (walk_at "s4"; try dsimp only [List.set, Int.reduceToNat]))

local macro_rules | `(tactic| walk_at "s5") => `(tactic| first
  | with_reducible refine rne_same ?_
  | with_reducible refine req_same ?_
  | walk_at "s4"
  | ((with_reducible refine' if_kT ?e1 ?_); (case e1 => first | assumption | rfl))
  | ((with_reducible refine' if_kF ?e1 ?_); (case e1 => first | assumption | rfl))
  | ((with_reducible refine' if_nkT ?e1 ?_); (case e1 => first | assumption | rfl))
  | ((with_reducible refine' if_nkF ?e1 ?_); (case e1 => first | assumption | rfl))
  | ((with_reducible refine' if_tagF ?e1 ?_); (case e1 => rfl))
  | ((with_reducible refine' if_tagN ?e1 ?_); (case e1 => rfl))
  | ((with_reducible refine' if_yes ?e1 ?_); (case e1 => with_reducible rfl))
  | ((with_reducible refine' if_yesN ?e1 ?_); (case e1 => with_reducible rfl))
  | with_reducible refine if_notT ?_
  | with_reducible refine if_notF ?_
  | with_reducible refine it_zip ?_
  | with_reducible refine it_enum ?_
  | with_reducible refine it_tup ?_
  | ((with_reducible refine' zip_mk ?e1 ?e2 ?_); (case e1 => walk_at "hp"); (case e2 => walk_at "hp"))
  | ((with_reducible refine' enum_mk ?e1 ?_); (case e1 => walk_at "hp"))
  | ((with_reducible refine' tupI_mk ?e1 ?_); (case e1 => walk_at "hp"))
  | with_reducible refine st_try ?_
  | with_reducible refine se_by ?_
  | ((with_reducible refine' RTupO.l ?e1 ?_); (case e1 => walk_at "hp"))
  | ((with_reducible refine' RListO.l ?e1 ?_); (case e1 => walk_at "hp"))
  | ((with_reducible refine' RListO.t ?e1 ?_); (case e1 => walk_at "hp"))
  | ((with_reducible refine' RListM.l ?e1 ?_); (case e1 => walk_at "hp")))
local macro_rules | `(tactic| walk_at "se") => `(tactic| repeat (walk_at "s5"; try dsimp only [List.set, Int.reduceToNat]))
local macro_rules | `(tactic| walk_at "sl") => `(tactic| first
  | exact List.Sublist.refl _
  | (refine List.Sublist.cons₂ _ ?_; walk_at "sl")
  | (refine List.Sublist.cons _ ?_; walk_at "sl"))
local macro_rules | `(tactic| walk_at "keep") => `(tactic| exact HI.sublist (by assumption) (by walk_at "sl"))

def spText (K : PySem.W.Frag) : Sp := fun vs H Q _ => ∃ (b : Addr) (R : Cells) (D : Hp) (x y z : Int) (n : Nat), vs = [.ref b] ∧ HI H ((b, bx x y z) :: R) D ∧ BoxOk n x y z ∧ n + 100 < 1000000 ∧
  ∀ v x' y' z' n' H' D', HI H' ((b, bx x' y' z') :: R) D' → Ex D D' → BoxOk n' x' y' z' → n' ≤ n + 50 → Th K D' v → Q v H'
set_option maxHeartbeats 2000000 in
theorem ok_l_text {P : Program} {w : World} {K : PySem.W.Frag} {mg : Str → Option Value} {base : Heap} (T : Tx K mg) : FnG P w K mg base 4 (a_l_text K) ["box"] (spText K) := by
  refine T.f_l_text.ok sc_l_text (fun vs H Q E h => ?_) (fun cdv A outer s H vs Q E hgu hr h => ⟨_, (pss_cons (ps_set (i := 1) sc_l_text.nd rfl (Or.inr rfl) pe_str)
 (pss_cons (ps_set (i := 2) sc_l_text.nd rfl (Or.inl rfl) (ge_call (ok_l_take T) hgu (hr.mono (by decide)) rfl T.g_l_take T.k_l_take T.b_l_take .nil (fun _ => pass_takes (takes_of rfl rfl rfl rfl)) (pa_cons (pv 0) (pa_cons pe_int pa_nil))))
 (pss_cons (ps_set (i := 3) sc_l_text.nd rfl (Or.inl rfl) (pe_lstM pa_nil))
 (pss_cons (ps_for (passes_of rfl) rfl (pi_range1 rfl T.n_range (pa_cons (ge_call (ok_l_take T) hgu (hr.mono (by decide)) rfl T.g_l_take T.k_l_take T.b_l_take .nil (fun _ => pass_takes (takes_of rfl rfl rfl rfl)) (pa_cons (pv 0) (pa_cons pe_int pa_nil))) pa_nil)) (pg_name (i := 4) sc_l_text.nd rfl (Or.inl rfl)) (pss_one (ps_expr (pe_bm PySem.F.plainAttrs_list PySem.F.slot_list_append PySem.F.type_list_append mt_append (pv 3) (pa_cons (pe_m1 PySem.F.slot_str_join PySem.F.type_str_join mt_joinU pe_str (pe_lc (own := [("j", 7)]) rfl sc_l_text.nd (pi_range1 rfl T.n_range (pa_cons (pe_op op_addU pe_int (ge_call (ok_l_take T) hgu (hr.mono (by decide)) rfl T.g_l_take T.k_l_take T.b_l_take .nil (fun _ => pass_takes (takes_of rfl rfl rfl rfl)) (pa_cons (pv 0) (pa_cons pe_int pa_nil)))) pa_nil)) (blkOk_by (own := [("j", 7)]) (N := ["box", "signs", "way", "words", "k", "text", "at", "j"]) (sc := defScope s_l_text) (by decide +kernel)) (fun _ _ _ _ _ => (pg_name (i := 7) sc_l_text.nd rfl (by first | exact Or.inl rfl | exact Or.inr rfl))) (fun _ _ _ _ _ => pts_nil) (fun _ _ _ _ _ => (pe_ix ix_U (pv 1) (ge_call (ok_l_take T) hgu (hr.mono (by decide)) rfl T.g_l_take T.k_l_take T.b_l_take .nil (fun _ => pass_none) (pa_cons (pv 0) (pa_cons (pe_callB (call_lenU) (by rfl) T.n_len boot_len (pa_cons (pv 1) pa_nil)) pa_nil))) (fun _ _ => rfl))))) pa_nil)))))
 (pss_cons (ps_set (i := 5) sc_l_text.nd rfl (Or.inl rfl) (pe_m1 PySem.F.slot_str_join PySem.F.type_str_join mt_joinU pe_str (pv 3)))
 (pss_cons (ps_set (i := 6) sc_l_text.nd rfl (Or.inl rfl) (ge_call (ok_l_take T) hgu (hr.mono (by decide)) rfl T.g_l_take T.k_l_take T.b_l_take .nil (fun _ => pass_takes (takes_of rfl rfl rfl rfl)) (pa_cons (pv 0) (pa_cons (pe_op op_addU (pe_callB (call_lenU) (by rfl) T.n_len boot_len (pa_cons (pv 5) pa_nil)) pe_int) pa_nil))))
 (pss_cons (ps_if (pt_cmpR (op_eqU hr.units) (pv 2) pe_int (nomark _)) (pss_one (ps_ret (pe_ix ix_U (pe_lst (pa_cons pe_non (pa_cons pe_int (pa_cons pe_bl (pa_cons (pe_lst (pa_cons pe_str pa_nil)) (pa_cons (pe_tup (pa_cons pe_str (pa_cons pe_str pa_nil))) (pa_cons (pe_dnewK) (pa_cons pe_str (pa_cons pe_str (pa_cons pe_str (pa_cons (pe_mkX T.x_NoName (ok_NoName_init T) T.b_NoName_init (hr.mono (by decide)) rfl (pa_cons pe_str pa_nil)) pa_nil))))))))))) (ge_call (ok_l_take T) hgu (hr.mono (by decide)) rfl T.g_l_take T.k_l_take T.b_l_take .nil (fun _ => pass_takes (takes_of rfl rfl rfl rfl)) (pa_cons (pv 0) (pa_cons pe_int pa_nil))) (fun _ _ => rfl)))) pss_nil)
 (pss_cons (ps_if (pt_cmpR (op_eqU hr.units) (pv 2) pe_int (nomark _)) (pss_one (ps_ret (pe_op op_addU (pe_op op_addU (pe_slice sl_U (pv 5) po_none (po_some (pv 6))) (pe_ix ix_U (pe_lst (pa_cons pe_str (pa_cons pe_str (pa_cons pe_str (pa_cons pe_str pa_nil))))) (ge_call (ok_l_take T) hgu (hr.mono (by decide)) rfl T.g_l_take T.k_l_take T.b_l_take .nil (fun _ => pass_takes (takes_of rfl rfl rfl rfl)) (pa_cons (pv 0) (pa_cons pe_int pa_nil))) (fun _ _ => rfl))) (pe_slice sl_U (pv 5) (po_some (pv 6)) po_none)))) pss_nil)
 (pss_one (ps_ret (pv 5))))))))))), ?_⟩)
  · obtain ⟨b, R, D, x, y, z, n, rfl, _⟩ := h
    rfl
  · obtain ⟨b, R, D, x, y, z, n, rfl, hI, hb, hn, go⟩ := h
    walk_at "go"
    walk_at "se"
    rename_i way x1 y1 z1 H1 hI1 bo1 w0 w1 pw H2 hI2 many x3 y3 z3 H3 hI3 bo3 m0 m1
    have sgl : Sg (Str.ofString "!\"#$&'()*+,-./0123456789:;<=>?@ABCDEFGHIJKLMNOPQRSTUVWXYZ[\\]^_`abcdefghijklmnopqrstuvwxyz{|}~") := sg_of rfl
    have sll : (Str.ofString "!\"#$&'()*+,-./0123456789:;<=>?@ABCDEFGHIJKLMNOPQRSTUVWXYZ[\\]^_`abcdefghijklmnopqrstuvwxyz{|}~").length = 93 := rfl
    refine for_rng (fun j σ R' D' => ∃ (ys : List Str) (v4 v5 v6 v7 : Option V) (x y z : Int) (n' : Nat), σ = [some (.ref b), some (.str (Str.ofString "!\"#$&'()*+,-./0123456789:;<=>?@ABCDEFGHIJKLMNOPQRSTUVWXYZ[\\]^_`abcdefghijklmnopqrstuvwxyz{|}~")), some (.int way), some (.ref pw), v4, v5, v6, v7] ∧ R' = (b, bx x y z) :: (pw, .lst (ys.map V.str)) :: R ∧ BoxOk n' x y z ∧ n' ≤ n + 2 + 6 * j ∧ Ex D D' ∧ ys.length = j ∧ ∀ y ∈ ys, y.length ≤ 5 ∧ Sg y) hI3
      ⟨[], _, _, _, _, _, _, _, _, rfl, rfl, bo3, by omega, Ex.refl _, rfl, all_n⟩ (fun j σ R' D' H' hj hI' q => ?_) (fun σ R' D' H' hI' q => ?_)
    · obtain ⟨ys, v4, v5, v6, v7, x4, y4, z4, n4, rfl, rfl, bo4, hn4, ex4, hys, hall⟩ := q
      have hyl : (ys.map V.str).length = j := by rw [List.length_map, hys]
      walk_at "se"
      rename_i sz x5 y5 z5 H5 hI5 bo5 s0 s1
      refine lc_rng (fun m acc R3 D3 => ∃ (zs : List Str) (x y z : Int) (n' : Nat), R3 = (b, bx x y z) :: (pw, .lst (ys.map V.str)) :: R ∧ BoxOk n' x y z ∧ n' ≤ n4 + 1 + m ∧ D3 = D' ∧ acc = zs.map V.str ∧ zs.length = m ∧ Ones zs) hI5 ⟨[], _, _, _, _, rfl, bo5, by omega, rfl, rfl, rfl, all_n⟩ (fun L m acc R3 D3 H6 hm hI6 q hl => ?_) (fun L acc R3 D3 H6 hI6 q hl => ?_)
      · obtain ⟨zs, x6, y6, z6, n6, rfl, bo6, hn6, rfl, rfl, hzs, ones⟩ := q
        walk_at "se"
        refine RIx.sgn (by rw [sll]; decide) (by assumption) (by assumption) (fun c hc => ?_)
        exact le_mk (by walk_at "hi") ⟨zs ++ [⟨#[c]⟩], _, _, _, _, rfl, by assumption, by omega, rfl, by rw [List.map_append]; rfl, by rw [List.length_append, hzs]; rfl, ones.snoc sgl hc⟩ hl (by omega)
      · obtain ⟨zs, x6, y6, z6, n6, rfl, bo6, hn6, rfl, rfl, hzs, ones⟩ := q
        have sm := ones.sum
        obtain ⟨jl, js⟩ := ones_join ones
        refine RJoin.mk (hI6.get (List.mem_cons_self ..)) (by rw [sm, hzs]; show _ + _ * 0 ≤ _; omega) ?_
        have hI7 := hI6.drop
        generalize Txt.join (Str.ofString "") zs = wd at jl js
        walk_at "se"
        rename_i H8 hI8
        rw [show ys.map V.str ++ [V.str wd] = (ys ++ [wd]).map V.str from by rw [List.map_append]; rfl] at hI8
        refine ⟨_, _, hI8.swap, ys ++ [wd], _, _, _, _, _, _, _, _, rfl, rfl, bo6, by omega, ex4, by rw [List.length_append, hys]; rfl, fun y hy => ?_⟩
        rcases List.mem_append.mp hy with h | h
        · exact hall y h
        · rw [List.mem_singleton.mp h]
          exact ⟨by omega, js⟩
    · obtain ⟨ys, v4, v5, v6, v7, x4, y4, z4, n4, rfl, rfl, bo4, hn4, ex4, hys, hall⟩ := q
      have sum : ∀ ys : List Str, (∀ y ∈ ys, y.length ≤ 5 ∧ Sg y) → (ys.map (·.length)).sum ≤ 5 * ys.length := fun ys => by
        induction ys with
        | nil => intro _; exact Nat.le_refl _
        | cons a r ih =>
          intro h
          have h1 := ih fun y hy => h y (List.mem_cons_of_mem _ hy)
          have h2 := (h a (List.mem_cons_self ..)).1
          simp only [List.map_cons, List.sum_cons, List.length_cons]
          omega
      have s5 := sum ys hall
      have e1 : (Str.ofString " ").length = 1 := rfl
      walk_at "se"
      refine RJoin.mk (hI'.get (by walk_at "mem")) (by rw [e1]; omega) ?_
      have tl := join_len (Str.ofString " ") ys
      have ts := join_sg (sep := Str.ofString " ") (sg_of rfl) ys (fun y hy => (hall y hy).2)
      rw [TL.join_eq]
      rw [e1] at tl
      generalize Str.join (Str.ofString " ") ys = tx at tl ts ⊢
      have tl2 : tx.length ≤ 1000 := by omega
      walk_at "se"
      rename_i at_ x8 y8 z8 H8 hI8 bo8 at0 at1
      refine if_dec (fun h1 => ?_) (fun h1 => ?_)
      · walk_at "se"
        rename_i pa HA DA hIA xA eA pb HB DB hIB xB eB pc _ _ _ _ eC pe pd HE DE hIE xE eE edE ps HS DS hIS xS eS r9 x9 y9 z9 H9 hI9 bo9 r90 r91
        have aS : DS pa = some (.lst [.str (Str.ofString "a")]) := by walk_at "dat"
        have bS : DS pb = some (.tup [.str (Str.ofString "a"), .str (Str.ofString "b")]) := by walk_at "dat"
        refine RIx.pick (P := fun v => Th K DS v) (by walk_at "hp") (all_c (Th.kn .non) (all_c (Th.kn (.int 7)) (all_c (Th.kn (.bl true)) (all_c (Th.kn (.lst aS)) (all_c (Th.kn (.tup bS)) (all_c (Th.kn (.dict (xS _ _ (xE _ _ eC)))) (all_c (Th.str (txt_of rfl)) (all_c (Th.str (txt_of rfl)) (all_c (Th.str (txt_of rfl)) (all_c (Th.kn (.exc (xS _ _ eE) (xS _ _ edE) T.x_NoName.E T.six_NoName)) all_n)))))))))) (by assumption) (by assumption) (fun v hv => ?_)
        exact go _ _ _ _ _ _ _ (by walk_at "keep") (by walk_at "ex") (by assumption) (by omega) hv
      · walk_at "se"
        refine if_dec (fun h2 => ?_) (fun h2 => ?_)
        · walk_at "se"
          have l1 := len_cut tx none (some at_)
          have s1 := ts.cut none (some at_)
          have l4 := len_cut tx (some at_) none
          have s4 := ts.cut (some at_) none
          refine RIx.pick (P := fun v => ∃ y, v = .str y ∧ y.length ≤ 2 ∧ Sg y) (by walk_at "hp") (all_c ⟨_, rfl, by decide +kernel, sg_of rfl⟩ (all_c ⟨_, rfl, by decide +kernel, sg_of rfl⟩ (all_c ⟨_, rfl, by decide +kernel, sg_of rfl⟩ (all_c ⟨_, rfl, by decide +kernel, sg_of rfl⟩ all_n)))) (by assumption) (by assumption) (fun v hv => ?_)
          obtain ⟨y2, rfl, l2, s2⟩ := hv
          refine radd_some (by omega) s1 s2 (fun y3 l3 s3 => ?_)
          walk_at "se"
          have l5 := len_app y3 (cutS tx (some at_) none)
          exact go _ _ _ _ _ _ _ (by walk_at "keep") (by walk_at "ex") (by assumption) (by omega) (Th.str ⟨by omega, s3.app s4⟩)
        · walk_at "se"
          exact go _ _ _ _ _ _ _ (by walk_at "keep") (by walk_at "ex") (by assumption) (by omega) (Th.str ⟨tl2, ts⟩)
def spLaw : Sp := fun vs H Q _ => ∃ (l : Addr) (o : Obj) (ns : List Int) (R : Cells) (D : Hp), vs = [.ref l] ∧ HI H R D ∧ D l = some (.frz o (.lst (ns.map V.int))) ∧ ∀ H', Q (.bl true) H'
set_option maxHeartbeats 4000000 in
theorem ok_law {P : Program} {w : World} {K : PySem.W.Frag} {mg : Str → Option Value} {base : Heap} (T : Tx K mg) : FnG P w K mg base 7 (a_law K) ["script"] spLaw := by
  refine T.f_law.ok sc_law (fun vs H Q E h => ?_) (fun cdv A outer s H vs Q E hgu hr h => ⟨_, (pss_cons (ps_for (passes_of rfl) rfl (pi_range1 rfl T.n_range (pa_cons (pe_callB (call_maxU rfl) (by rfl) T.n_max boot_max (pa_cons pe_int (pa_cons (pe_callB (call_minU rfl) (by rfl) T.n_min boot_min (pa_cons pe_int (pa_cons (pe_callB (call_lenU) (by rfl) T.n_len boot_len (pa_cons (pv 0) pa_nil)) pa_nil))) pa_nil))) pa_nil)) (pg_name (i := 1) sc_law.nd rfl (Or.inl rfl)) (pss_cons (ps_set (i := 2) sc_law.nd rfl (Or.inl rfl) (ge_call (ok_l_box T) hgu (hr.mono (by decide)) rfl T.g_l_box T.k_l_box T.b_l_box .nil (fun _ => pass_takes (takes_of rfl rfl rfl rfl)) (pa_cons (ge_call (ok_l_cell T) hgu (hr.mono (by decide)) rfl T.g_l_cell T.k_l_cell T.b_l_cell .nil (fun _ => pass_takes (takes_of rfl rfl rfl rfl)) (pa_cons (pv 0) (pa_cons (pv 1) pa_nil))) pa_nil)))
 (pss_one (ps_if (PW.pt (pw_or (pt_not (pt_val (ge_call (ok_l_words_right T) hgu (hr.mono (by decide)) rfl T.g_l_words_right T.k_l_words_right T.b_l_words_right .nil (fun _ => pass_takes (takes_of rfl rfl rfl rfl)) (pa_cons (ge_call (ok_l_text T) hgu (hr.mono (by decide)) rfl T.g_l_text T.k_l_text T.b_l_text .nil (fun _ => pass_takes (takes_of rfl rfl rfl rfl)) (pa_cons (pv 2) pa_nil)) pa_nil)))) (pw_or (pt_not (pt_val (ge_call (ok_l_figures_right T) hgu (hr.mono (by decide)) rfl T.g_l_figures_right T.k_l_figures_right T.b_l_figures_right .nil (fun _ => pass_takes (takes_of rfl rfl rfl rfl)) (pa_cons (pv 2) pa_nil)))) (pw_or1 (pt_not (pt_val (ge_call (ok_l_figures_right T) hgu (hr.mono (by decide)) rfl T.g_l_figures_right T.k_l_figures_right T.b_l_figures_right .nil (fun _ => pass_takes (takes_of rfl rfl rfl rfl)) (pa_cons (pv 2) pa_nil)))))))) (pss_one (ps_ret pe_bl)) pss_nil))))
 (pss_one (ps_ret pe_bl))), ?_⟩)
  · obtain ⟨l, o, ns, R, D, rfl, _⟩ := h
    rfl
  · obtain ⟨l, o, ns, R, D, rfl, hI, hl, go⟩ := h
    walk_at "go"
    walk_at "se"
    refine for_rng (fun i σ R' D' => ∃ a1 a2, σ = [some (.ref l), a1, a2] ∧ R' = R ∧ Ex D D') (by assumption) ⟨_, _, rfl, rfl, by walk_at "ex"⟩ (fun i σ R' D' H' hi hI' p => ?_) (fun σ R' D' H' hI' p => ?_)
    · obtain ⟨a1, a2, rfl, rfl, x⟩ := p
      walk_at "se"
      refine cell_now hI' (by walk_at "dat") (by omega) (by omega) (fun c H5 hI5 => ?_)
      walk_at "se"
      refine box_now hI5 (fun b xx yy H6 hI6 bo6 => ?_)
      walk_at "se"
      refine ⟨b, _, _, _, _, _, _, rfl, hI6, bo6, by omega, fun v x7 y7 z7 n7 H7 D7 hI7 ex7 bo7 hn7 th => ?_⟩
      walk_at "se"
      refine ⟨v, _, _, rfl, hI7, th, fun H8 D8 hI8 x8 => ?_⟩
      walk_at "se"
      refine ⟨b, _, _, _, _, _, _, rfl, hI8, bo7, by omega, fun x9 y9 z9 n9 H9 D9 hI9 ex9 bo9 hn9 => ?_⟩
      walk_at "se"
      refine ⟨b, _, _, _, _, _, _, rfl, hI9, bo9, by omega, fun xA yA zA nA HA DA hIA exA boA hnA => ?_⟩
      walk_at "se"
      exact ⟨_, _, hIA.drop, _, _, rfl, rfl, by walk_at "ex"⟩
    · obtain ⟨a1, a2, rfl, rfl, x⟩ := p
      walk_at "se"
      exact go _
end Wk

set_option maxRecDepth 100000
set_option maxHeartbeats 0
namespace Wk
open PySem PySem.Spec PyProof.Rows L2
def ln0 : List Str := ["WeekError", "MissError", "NoName", "NoNumber", "is_whole", "two_figures", "words_of", "_law_cell", "_law_box", "_law_take", "_law_text", "_law_words", "_law_words_right", "_law_figures", "_law_figures_right"]
def loose : List Str := ln0
abbrev Rw : PySem.W.OpenRow := PySem.W.OpenLaw.row PySem.Challenge.rw_weekheads_k03_words_and_figures
abbrev hk : PySem.W.Hook := WA.hookX cs fx fn
def ob (s : PySem.W.SharedT) : WA.AlX := WA.obsXG cs fx fn (HandSHeadRun.getT s)
theorem ob_eq (s : PySem.W.SharedT) : ob s = hk.obs s.abs := WA.obsXG_eq (HandSHeadRun.getT_eq s)
theorem run (w : World) : HandSHeadRun.RunEq Rw (PySem.W.view Rw.prog [18]) hk ob 20000 loose w := by
  intro os
  kernel_rfl
theorem law_hc {q : Program} {loose : List Str} {XP : (Str → Option Value) → Heap → Prop} {d : DefRec} (hdf : d.params.defaults = []) (hnm : d.name = "law") : PySem.W.WalkO q loose XP hk.says (PySem.W.OpenLaw.row PySem.Challenge.rw_weekheads_k03_words_and_figures).toRowW d [] (fun f vs => PySem.call f vs) := by
  refine law_endG (l := PySem.Challenge.rw_weekheads_k03_words_and_figures) (n := 63) (k := 7) (x := "script") rfl (by decide) hdf ⟨rfl, by decide, by decide⟩ (fun w mg fa h Y G hmg => ?_)
  obtain ⟨K, X, c⟩ := Y
  have T : Tx K mg := ⟨c, h, X, G⟩
  rw [hnm] at hmg
  have e := hmg.symm.trans T.g_law
  cases e
  exact ⟨K, spLaw, X, T.nol, fun s u => FunD.bindsA (ps := ["script"]) T.f_law (fun _ _ _ _ _ _ us hl => match us, hl with | [_], _ => rfl) s [u] rfl, fun H a o ns hl hI ha => ⟨a, o, ns, [], H, rfl, hI, ha, fun _ => rfl⟩, fun base _ _ => ok_law T⟩
end Wk
open PySem PySem.W PySem.Calls PyProof.Rows
set_option maxRecDepth 100000 in
set_option maxHeartbeats 0 in
theorem PySem.Challenge.cw_weekheads_k03_words_and_figures_holds : PySem.Challenge.rw_weekheads_k03_words_and_figures.Holds := by
  w_on; o_law
  refine HandSHeadRun.head_any (r := OpenLaw.row PySem.Challenge.rw_weekheads_k03_words_and_figures) (q := view (OpenLaw.row PySem.Challenge.rw_weekheads_k03_words_and_figures).prog [18]) (H := Wk.hk) (ob := Wk.ob) (M := 20000) (loose := Wk.loose) (d := HandSHeadRun.topDef (OpenLaw.row PySem.Challenge.rw_weekheads_k03_words_and_figures).prog 18) (kwd := []) Wk.ob_eq
    (by kernel_rfl) (fun s => by kernel_rfl) Wk.run (by kernel_rfl) (by kernel_rfl) (by kernel_rfl) (by rfl) (by first | assumption | decide +kernel) (by decide +kernel) ⟨rfl, rfl, rfl, rfl, rfl, by decide +kernel⟩ ?hw ?hc
  case hw => w_witness2
  case hc => exact Wk.law_hc (by kernel_rfl) (by kernel_rfl)
