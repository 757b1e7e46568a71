import PyProof.Rows.All
import Wide.All
import OpenK.AllK
import Wide.FinOn
import KE.KStateDown
import HandS.ForExc
import HandS.Defaults
import HandS.Head0
import HandS.Head1
import HandS.Head2
import HandS.HeadEnd
import HandS.HeadHook1
import HandS.HeadHook2
import HandS.ForMost
import HandS.Wide
import HandS.IsInst
import HandS.Flow
import HandS.Evl
import PyProof.ReprRoads
import PyProof.CallFns
import HandS.Text
import HandS.Walk
import HandS.ExcInit
import HandS.ExcIs
import HandS.ExcOwn
import HandS.TryMany
import HandS.MakeKwOnly
import KE.KCallOwn
import OpenK.KOps
import HandS.FStr
import PyProof.ExcRepr
import PyProof.ExcReprCall
import HandS.NamedTupSort
import PyProof.StrLawsRepr
import PyProof.ReprLen
import PyProof.StrLawsChain
import PyProof.StrLawsTight
import HandS.StrMore
import HandS.WordsDict
import HandS.More
import PyProof.NeKinds
import HandS.Style
import PyProof.EqKinds
import PyProof.MeetsIn
import HandS.Conv
import KE.SortData
import HandS.SetKeys
import HandS.SortKw
import KE.GoesEnumKw
import HandS.OwnEq
import KE.KFmtOwn
import PyProof.FactsAll.dict
import PySem.Challenge.RW_weekheads_k09_lists_of_sorts
set_option Elab.async false
set_option linter.all false
set_option maxRecDepth 100000
set_option maxHeartbeats 4000000
namespace WA
open PySem PySem.Spec PyProof.Rows L2
/-- a name's value in a namespace, for picking alone -/
def nm (g : Addr → Option Obj) (n : Addr) (x : Str) : Option Value := (g n).bind fun o => match o.data with
  | .dict es _ => (es.toList.find? fun e => e.key.isStr x).map fun e => e.val
  | _ => none
def ad : Option Value → Addr
  | some (.ref a) => a
  | _ => 0
def adV : Value → List Addr
  | .ref a => [a]
  | _ => []
def nsOf (g : Addr → Option Obj) (C : Addr) : Addr := match g C with
  | some o => (match o.data with
    | .cls cd => cd.ns
    | _ => 0)
  | none => 0
def fnOf (g : Addr → Option Obj) (f : Addr) : List Addr := match g f with
  | some o => (match o.data with
    | .func fd => f :: (adV fd.code ++ adV fd.defaults)
    | _ => [f])
  | none => []
def atOf (g : Addr → Option Obj) (p : Str × Option Str) : Addr := match p.2 with
  | none => ad (nm g mainGlobals p.1)
  | some m => ad (nm g (nsOf g (ad (nm g mainGlobals p.1))) m)
/-- the objects that are looked at: the module's names, the classes, the defs -/
def pick (g : Addr → Option Obj) (cs : List Str) (fs : List (Str × Option Str)) : List Addr :=
  mainGlobals :: sysModules :: cStatics :: ((cs.flatMap fun x => [ad (nm g mainGlobals x), nsOf g (ad (nm g mainGlobals x))]) ++ fs.flatMap fun p => fnOf g (atOf g p))
/-- a list is laid open ahead of what follows -/
def openL {α : Type} : PySem.W.Frag → (PySem.W.Frag → α) → α
  | [], k => k []
  | (a, o) :: r, k => HandSHeadRun.frNat a fun a => openL r fun r => k ((a, o) :: r)
theorem openL_eq {α : Type} : ∀ (K : PySem.W.Frag) (k : PySem.W.Frag → α), openL K k = k K
  | [], k => rfl
  | (a, o) :: r, k => by
    show HandSHeadRun.frNat a (fun a => openL r fun r => k ((a, o) :: r)) = _
    rw [HandSHeadRun.frNat_eq, openL_eq r]
abbrev Fx := PySem.W.Frag → Bool
abbrev AlX : Type := Bool × List He.FnW
def obsX (fx : List Fx) (fn : List He.DefD) (K : PySem.W.Frag) : AlX := ((fx.all fun f => f K) && fn.all fun d => d.ok K, fn.map fun d => He.fnW K d.at_)
def valX (fn : List He.DefD) : AlX := (true, fn.map He.DefD.val)
def SaysX (fx : List Fx) (fn : List He.DefD) (K : PySem.W.Frag) : Prop := obsX fx fn K = valX fn
def obsXG (cs : List Str) (fx : List Fx) (fn : List He.DefD) (g : Addr → Option Obj) : AlX := openL (He.frG g (pick g cs (fn.map fun d => d.at_))) fun K => obsX fx fn K
def hookX (cs : List Str) (fx : List Fx) (fn : List He.DefD) : PySem.W.Hook where
  α := AlX
  obs := fun s => obsXG cs fx fn s.heap.get?
  val := fun _ => valX fn
  says := fun _ h => ∃ K : PySem.W.Frag, K.In h ∧ SaysX fx fn K
  of := fun _ _ e => ⟨_, He.frG_in, by
    unfold obsXG at e
    rw [openL_eq] at e
    exact e⟩
  keeps := fun _ _ _ ⟨K, X, c⟩ k => ⟨K, X.keeps k, c⟩
theorem obsXG_eq {cs : List Str} {fx : List Fx} {fn : List He.DefD} {g : Addr → Option Obj} {s : Shared} (h : ∀ a, g a = s.heap.get? a) : obsXG cs fx fn g = (hookX cs fx fn).obs s := by
  have e : g = s.heap.get? := funext h
  rw [e]
  rfl
section
variable {fx : List Fx} {fn : List He.DefD} {K : PySem.W.Frag}
theorem SaysX.two (c : SaysX fx fn K) : (∀ f ∈ fx, f K = true) ∧ (∀ d ∈ fn, d.ok K = true) ∧ fn.map (fun d => He.fnW K d.at_) = fn.map He.DefD.val := by
  have c1 : ((fx.all fun f => f K) && fn.all fun d => d.ok K) = true := congrArg Prod.fst c
  have c2 : fn.map (fun d => He.fnW K d.at_) = fn.map He.DefD.val := congrArg Prod.snd c
  obtain ⟨a, b⟩ := He.ba c1
  exact ⟨List.all_eq_true.mp a, List.all_eq_true.mp b, c2⟩
theorem SaysX.fact (c : SaysX fx fn K) (i : Nat) {f : Fx} (h : fx[i]? = some f := by rfl) : f K = true := c.two.1 f (List.mem_of_getElem? h)
theorem SaysX.def_ (c : SaysX fx fn K) (i : Nat) {d : He.DefD} (h : fn[i]? = some d := by rfl) : ∃ fd, FunD K d.name d.qual d.params d.body d.scope (d.dvs K) (d.kws K) (He.fAd K d.at_) fd := by
  obtain ⟨_, b, e⟩ := c.two
  have e1 : (fn.map fun d => He.fnW K d.at_)[i]? = (fn.map He.DefD.val)[i]? := by rw [e]
  rw [List.getElem?_map, List.getElem?_map, h] at e1
  exact He.DefD.funD (Option.some.inj e1) (b d (List.mem_of_getElem? h))
end
end WA
set_option maxRecDepth 100000
set_option maxHeartbeats 4000000
namespace Wk
open PySem PySem.Spec PyProof.Rows L2
structure HI (H : Hp) (R : List (Addr × HO)) (D : Hp) : Prop where
  nd : (R.map (·.1)).Nodup
  cell : ∀ p ∈ R, H p.1 = some p.2 ∧ D p.1 = none
  sub : ∀ a o, D a = some o → H a = some o
/-- more data -/
def Ex (D D' : Hp) : Prop := ∀ a o, D a = some o → D' a = some o
theorem Ex.refl (D : Hp) : Ex D D := fun _ _ h => h
theorem Ex.trans {D D1 D2 : Hp} (a : Ex D D1) (b : Ex D1 D2) : Ex D D2 := fun x o h => b x o (a x o h)
theorem Ex.new {D : Hp} {p : Addr} {o : HO} (h : D p = none) : Ex D (upd D p o) := fun a u e => by
  rw [upd_ne (ne_of_none e h)]
  exact e
section
variable {H D : Hp} {R : List (Addr × HO)} {a p : Addr} {o u : HO} {x y z : Addr × HO}
theorem HI.get (h : HI H R D) (m : (a, o) ∈ R) : H a = some o := (h.cell _ m).1
theorem HI.dat (h : HI H R D) (d : D a = some o) : H a = some o := h.sub a o d
theorem HI.free (h : HI H R D) (hp : H p = none) : D p = none := by
  cases q : D p with
  | none => rfl
  | some w =>
    rw [h.sub p w q] at hp
    cases hp
theorem HI.notin (h : HI H R D) (hp : H p = none) : p ∉ R.map (·.1) := fun m => by
  obtain ⟨q, hq, e⟩ := List.mem_map.mp m
  have := (h.cell q hq).1
  rw [e, hp] at this
  cases this
/-- a new cell -/
theorem HI.new (h : HI H R D) (hp : H p = none) : HI (upd H p o) ((p, o) :: R) D := by
  have nm := h.notin hp
  refine ⟨by rw [List.map_cons]; exact List.nodup_cons.mpr ⟨nm, h.nd⟩, fun q hq => ?_, fun b w e => ?_⟩
  · rcases List.mem_cons.mp hq with e | hq
    · rw [e]
      exact ⟨upd_same, h.free hp⟩
    · have ne : q.1 ≠ p := fun e => nm (List.mem_map.mpr ⟨q, hq, e⟩)
      rw [upd_ne ne]
      exact h.cell q hq
  · rw [upd_ne (ne_of_none (h.sub b w e) hp)]
    exact h.sub b w e
/-- new data -/
theorem HI.newD (h : HI H R D) (hp : H p = none) : HI (upd H p o) R (upd D p o) := by
  have nm := h.notin hp
  refine ⟨h.nd, fun q hq => ?_, fun b w e => ?_⟩
  · have ne : q.1 ≠ p := fun e => nm (List.mem_map.mpr ⟨q, hq, e⟩)
    rw [upd_ne ne, upd_ne ne]
    exact h.cell q hq
  · by_cases e2 : b = p
    · rw [e2, upd_same] at e ⊢
      exact e
    · rw [upd_ne e2] at e ⊢
      exact h.sub b w e
/-- a cell is changed -/
theorem HI.set (h : HI H ((a, o) :: R) D) : HI (upd H a u) ((a, u) :: R) D := by
  have nd : a ∉ R.map (·.1) := (List.nodup_cons.mp h.nd).1
  refine ⟨h.nd, fun q hq => ?_, fun b w e => ?_⟩
  · rcases List.mem_cons.mp hq with e | hq
    · rw [e]
      exact ⟨upd_same, (h.cell (a, o) (List.mem_cons_self ..)).2⟩
    · have ne : q.1 ≠ a := fun e => nd (List.mem_map.mpr ⟨q, hq, e⟩)
      rw [upd_ne ne]
      exact h.cell q (List.mem_cons_of_mem _ hq)
  · have ne : b ≠ a := fun e2 => by
      rw [e2, (h.cell (a, o) (List.mem_cons_self ..)).2] at e
      cases e
    rw [upd_ne ne]
    exact h.sub b w e
/-- a cell becomes data -/
theorem HI.freeze (h : HI H ((a, o) :: R) D) : HI H R (upd D a o) := by
  have nd : a ∉ R.map (·.1) := (List.nodup_cons.mp h.nd).1
  refine ⟨(List.nodup_cons.mp h.nd).2, fun q hq => ?_, fun b w e => ?_⟩
  · have ne : q.1 ≠ a := fun e => nd (List.mem_map.mpr ⟨q, hq, e⟩)
    rw [upd_ne ne]
    exact h.cell q (List.mem_cons_of_mem _ hq)
  · by_cases e2 : b = a
    · rw [e2, upd_same] at e
      cases e
      rw [e2]
      exact (h.cell (a, o) (List.mem_cons_self ..)).1
    · rw [upd_ne e2] at e
      exact h.sub b w e
theorem HI.freezeX (h : HI H ((a, o) :: R) D) : Ex D (upd D a o) := Ex.new (h.cell (a, o) (List.mem_cons_self ..)).2
/-- forgetting a cell -/
theorem HI.drop (h : HI H (x :: R) D) : HI H R D := ⟨(List.nodup_cons.mp h.nd).2, fun q hq => h.cell q (List.mem_cons_of_mem _ hq), h.sub⟩
theorem HI.perm {R' : List (Addr × HO)} (h : HI H R D) (p : R.Perm R') : HI H R' D :=
  ⟨(p.map (·.1)).nodup_iff.mp h.nd, fun q hq => h.cell q (p.mem_iff.mpr hq), h.sub⟩
theorem HI.swap (h : HI H (x :: y :: R) D) : HI H (y :: x :: R) D := h.perm (List.Perm.swap ..)
theorem HI.up2 (h : HI H (x :: y :: z :: R) D) : HI H (z :: x :: y :: R) D := h.perm (by
  refine List.Perm.trans (List.Perm.cons x (List.Perm.swap z y R)) ?_
  exact List.Perm.swap z x (y :: R))
theorem HI.dn2 (h : HI H (x :: y :: z :: R) D) : HI H (y :: z :: x :: R) D := h.perm (by
  refine List.Perm.trans (List.Perm.swap y x (z :: R)) ?_
  exact List.Perm.cons y (List.Perm.swap z x R))
theorem HI.set2 (h : HI H (x :: (a, o) :: R) D) : HI (upd H a u) (x :: (a, u) :: R) D := h.swap.set.swap
theorem HI.set3 (h : HI H (x :: y :: (a, o) :: R) D) : HI (upd H a u) (x :: y :: (a, u) :: R) D := h.up2.set.dn2
end
/-- a new object, data from now on; a new cell -/
def AlD (o : HO) (H : Hp) (Q : VK) : Prop := ∀ p, H p = none → Q (.ref p) (upd H p o)
def AlM (o : HO) (H : Hp) (Q : VK) : Prop := ∀ p, H p = none → Q (.ref p) (upd H p o)
theorem al_D {H D : Hp} {R : List (Addr × HO)} {o : HO} {Q : VK} (h : HI H R D) (k : ∀ p H' D', HI H' R D' → Ex D D' → D' p = some o → Q (.ref p) H') : AlD o H Q :=
  fun p hp => k p _ _ (h.newD hp) (Ex.new (h.free hp)) upd_same
theorem al_M {H D : Hp} {R : List (Addr × HO)} {o : HO} {Q : VK} (h : HI H R D) (k : ∀ p H', HI H' ((p, o) :: R) D → Q (.ref p) H') : AlM o H Q :=
  fun p hp => k p _ (h.new hp)
theorem HI.up3 {H D : Hp} {R : List (Addr × HO)} {x y z u : Addr × HO} (h : HI H (x :: y :: z :: u :: R) D) : HI H (u :: x :: y :: z :: R) D := h.perm (by
  refine List.Perm.trans (List.Perm.cons x (List.Perm.cons y (List.Perm.swap u z R))) ?_
  refine List.Perm.trans (List.Perm.cons x (List.Perm.swap u y (z :: R))) ?_
  exact List.Perm.swap u x (y :: z :: R))
section
variable {K : PySem.W.Frag} {σ : L2.St} {H : Hp} {Q : VK} {ta tb tc te : TE} {D : Ends} {t u : TS} {tt tt2 : TT} {QB : Bool → Hp → Prop}
theorem st_seq (h : t { D with nx := u D } σ H) : tSeq t u D σ H := h
theorem st_asg {g : TG} (h : te σ H fun x H1 => g x σ H1 D.nx) : tAsg te g D σ H := h
theorem st_ret (h : te σ H D.rt) : tRet te D σ H := h
theorem st_if (h : tt σ H fun b H1 => if b = true then t D σ H1 else u D σ H1) : tIfS tt t u D σ H := h
theorem st_drop (h : te σ H fun _ H1 => D.nx σ H1) : tDrop te D σ H := h
theorem st_next (h : D.nx σ H) : tNext D σ H := h
theorem st_brk (h : D.bk σ H) : tBreak D σ H := h
theorem st_cont (h : D.ct σ H) : tCont D σ H := h
theorem sg_name {i : Nat} {v : V} {N : L2.St → Hp → Prop} (h : N (σ.set i (some v)) H) : gName i v σ H N := h
theorem sg_sub {to ti : TE} {s : TSet} {v : V} {N : L2.St → Hp → Prop} (h : to σ H fun o H1 => ti σ H1 fun i H2 => s o i v H2 fun H3 => N σ H3) : gSub to ti s v σ H N := h
theorem sg_tup {n : Nat} {gs : TGs} {a : Addr} {xs : List V} {N : L2.St → Hp → Prop} (hx : SqT K H a xs) (hl : xs.length = n) (h : gs xs σ H N) : gTup K n gs (.ref a) σ H N := ⟨a, xs, rfl, hx, hl, h⟩
theorem sg_nil {N : L2.St → Hp → Prop} (h : N σ H) : gNil [] σ H N := ⟨rfl, h⟩
theorem sg_cons {g : TG} {gs : TGs} {v : V} {r : List V} {N : L2.St → Hp → Prop} (h : g v σ H fun σ' H' => gs r σ' H' N) : gCons g gs (v :: r) σ H N := ⟨v, r, rfl, h⟩
theorem se_var {i : Nat} {v : V} (e : σ[i]? = some (some v)) (h : Q v H) : tVar i σ H Q := ⟨v, e, h⟩
theorem se_c {v : V} (h : Q v H) : tC v σ H Q := h
theorem se_op {r : R2} (h : ta σ H fun x H1 => tb σ H1 fun y H2 => r x y H2 Q) : tOp r ta tb σ H Q := h
theorem se_un {r : V → Hp → VK → Prop} (h : ta σ H fun x H1 => r x H1 Q) : tUn r ta σ H Q := h
theorem se_tup {t : TA} (h : t σ H fun xs H1 => xs.length ≤ sizeLine ∧ AlD (.tup xs) H1 Q) : tTup t σ H Q := h
theorem se_lst {t : TA} (h : t σ H fun xs H1 => xs.length ≤ sizeLine ∧ AlD (.lst xs) H1 Q) : tLst t σ H Q := h
/-- a list that will change -/
def tLstM (t : TA) : TE := tLst t
theorem se_lstM {t : TA} (h : t σ H fun xs H1 => xs.length ≤ sizeLine ∧ AlM (.lst xs) H1 Q) : tLstM t σ H Q := h
theorem sa_nil {N : List V → Hp → Prop} (h : N [] H) : tNil σ H N := h
theorem sa_cons {t : TA} {N : List V → Hp → Prop} (h : te σ H fun x H1 => t σ H1 fun xs H2 => N (x :: xs) H2) : tCons te t σ H N := h
theorem se_cb {r : List V → Hp → VK → Prop} {t : TA} (h : t σ H fun vs H1 => r vs H1 Q) : tCB r t σ H Q := h
theorem se_if (h : tt σ H fun b H1 => if b = true then ta σ H1 Q else tb σ H1 Q) : tIf tt ta tb σ H Q := h
theorem st_test (h : te σ H fun x H1 => ∃ k, x = .bl k ∧ QB k H1) : tTest te σ H QB := h
theorem st_B (h : te σ H fun x H1 => ∃ k, x = .bl k ∧ QB k H1) : tB te σ H QB := h
theorem st_bl {k : Bool} {N : Bool → Prop} (h : N k) : ∃ k', (V.bl k) = .bl k' ∧ N k' := ⟨k, rfl, h⟩
theorem st_and (h : tt σ H fun c H1 => if c = true then tt2 σ H1 QB else QB false H1) : tAnd tt tt2 σ H QB := h
theorem st_or (h : tt σ H fun c H1 => if c = true then QB true H1 else tt2 σ H1 QB) : tOr tt tt2 σ H QB := h
theorem st_not (h : tt σ H fun c H1 => QB (!c) H1) : tNot tt σ H QB := h
theorem ri_mk {C : Int → Int → Prop} {g : Int → Int → V} {i j : Int} (c : C i j) (h : Q (g i j) H) : rI C g (.int i) (.int j) H Q := ⟨i, j, rfl, rfl, c, h⟩
theorem ri0_mk {g : Int → Int → V} {i j : Int} (h : Q (g i j) H) : rI0 g (.int i) (.int j) H Q := ⟨i, j, rfl, rfl, h⟩
end
theorem if_dec {c A B : Prop} [Decidable c] (h1 : c → A) (h2 : ¬ c → B) : if decide c = true then A else B := by
  by_cases h : c
  · rw [if_pos (decide_eq_true h)]
    exact h1 h
  · rw [if_neg (by rw [decide_eq_false h]; decide)]
    exact h2 h
theorem if_yes {c A B : Prop} [Decidable c] (h : c) (a : A) : if decide c = true then A else B := by
  rw [if_pos (decide_eq_true h)]
  exact a
theorem if_no {c A B : Prop} [Decidable c] (h : ¬ c) (b : B) : if decide c = true then A else B := by
  rw [if_neg (by rw [decide_eq_false h]; decide)]
  exact b
theorem if_yesN {c A B : Prop} [Decidable c] (h : c) (b : B) : if (!decide c) = true then A else B := by
  rw [decide_eq_true h]
  exact iteF b
theorem if_noN {c A B : Prop} [Decidable c] (h : ¬ c) (a : A) : if (!decide c) = true then A else B := by
  rw [decide_eq_false h]
  exact iteT a
theorem small_ok {n : Nat} (h : n ≤ 1000000) : n ≤ sizeLine := Nat.le_trans h (by rw [sizeLine_eq]; decide)
theorem and_on {A B : Prop} (a : A) (b : B) : A ∧ B := ⟨a, b⟩
end Wk
set_option maxRecDepth 100000
set_option maxHeartbeats 4000000
namespace Wk
open PySem PySem.Spec PyProof.Rows L2
/-- the function object that stands at f -/
def fdOf (K : PySem.W.Frag) (f : Addr) : FuncData := match K.lookup f with
  | some ⟨_, _, .func fd, _⟩ => fd
  | _ => PySem.W.fnOf "" "" { posonlyargs := [], args := [], vararg := none, kwonlyargs := [], kw_defaults := [], kwarg := none, defaults := [] } [] { kind := .function, names := [], isGenerator := false, isCoroutine := false } .none .none .none .none none .none .none
/-- a def of the text, as it stands behind the top -/
def FD (K : PySem.W.Frag) (x qual : Str) (st : Stmt) (dvs : List V) (f : Addr) : Prop := FunD K x qual (defArgs st) (defBody st) (defScope st) dvs [] f (fdOf K f)
theorem fd_of {K : PySem.W.Frag} {x qual : Str} {st : Stmt} {dvs : List V} {f : Addr} {fd : FuncData} (F : FunD K x qual (defArgs st) (defBody st) (defScope st) dvs [] f fd) : FD K x qual st dvs f := by
  obtain ⟨oc, od, dV, kV, doc, pm, an, cdv, ct, osl, e, lk, r⟩ := F.ex
  have q : fdOf K f = fd := by
    unfold fdOf
    rw [lk]
  unfold FD
  rw [q]
  exact F
/-- the promise: FnOk's, where no container is about to be shown around -/
structure FnG (P : Program) (w : World) (K : PySem.W.Frag) (mg : Str → Option Value) (base : Heap) (k : Nat) (f : Addr) (ps : List Str) (sp : Sp) : Prop where
  len : ∀ vs H Q E, sp vs H Q E → vs.length = ps.length
  run : ∀ (A : Around) (outer : List Env) (s : Shared) (H : Hp) (args : Args) (us : List Value) (vs : List V) (Q : VK) (E : XK), A.guards = some [] → Room k A → Env0 P w K mg base A outer s H →
    BindsTo s (fdOf K f) args (ps.zip us) → Vals vs us → sp vs H Q E → codeAny (model P w) A (.call (.ref f) args) (CR (L2.CX P w) outer P w H s Q E) s
theorem FnG.mono {P : Program} {w : World} {K : PySem.W.Frag} {mg : Str → Option Value} {base : Heap} {j k : Nat} {f : Addr} {ps : List Str} {sp : Sp} (F : FnG P w K mg base j f ps sp) (h : j ≤ k) : FnG P w K mg base k f ps sp :=
  ⟨F.len, fun A outer s H args us vs Q E hg hr => F.run A outer s H args us vs Q E hg (hr.mono h)⟩
section
variable {P : Program} {w : World} {K : PySem.W.Frag} {mg : Str → Option Value} {base : Heap}
theorem FD.ok {x qual : Str} {st : Stmt} {dvs : List V} {f : Addr} {N ps : List Str} {k : Nat} {sp : Sp} (F : FD K x qual st dvs f) (S : FnScope N ps (defScope st)) (len : ∀ vs H Q E, sp vs H Q E → vs.length = ps.length)
    (hbody : ∀ (cdv : Value) (A : Around) (outer : List Env) (s : Shared) (H : Hp) (vs : List V) (Q : VK) (E : XK), A.guards = some [] → Room k (A.deeper (envOfC qual (defScope st) s.heap.objs.size f cdv)) → sp vs H Q E →
      ∃ t, PSs (cxOf (L2.CX P w) P w K mg base N qual (defScope st) f cdv A outer s H E) (defBody st) t ∧ t { nx := fun _ H' => Q .non H', rt := Q } (start N vs) H) : FnG P w K mg base (k + 1) f ps sp := by
  obtain ⟨oc, od, dV, kV, doc, pm, an, cdv, ct, osl, efd, lk, hcd, _, _⟩ := FunD.ex F
  refine ⟨len, fun A outer s H args us vs Q E hgu hr e0 hb r hsp => ?_⟩
  have hl := len _ _ _ _ hsp
  have KX : K.In s.heap := e0.mod.kin.keeps fun b o e => (e0.bs b o e).1
  have lim : s.heap.NoLimit := e0.mod.nolimit.keeps fun b o e => (e0.bs b o e).1
  rw [efd] at lk hb
  have hk : ∀ y ∈ ps.zip us, (defScope st).names.lookup y.1 = some .local ∨ ((defScope st).names.lookup y.1 = some .cell ∧ ((cellsFrom (s.heap.objs.size + 1) (defScope st).names []).lookup y.1).isSome = true) := fun ⟨n, v⟩ hy => by
    rcases S.par n (List.of_mem_zip hy).1 with q | q
    · exact .inl q
    · exact .inr ⟨q, PySem.W.cellsFrom_some _ _ _ (.inl q)⟩
  refine codeAny_call_function hr.depth (KX _ _ lk) rfl S.co S.gen rfl (PySem.W.codeRec_of KX hcd) (hb _ _ _ _ ?_)
  refine wpAny_newFunctionEnv_cells S.kind hk fun env he s1 x => ?_
  subst he
  refine ⟨lim.keeps x.toInCall.keep, codeAny_func ?_⟩
  obtain ⟨t, ht, hq⟩ := hbody cdv A outer s H vs Q E hgu (hr.deeper _) hsp
  have I : Inv (cxOf (L2.CX P w) P w K mg base N qual (defScope st) f cdv A outer s H E) [] (start N vs) H s1 := inv_start S hr.hd e0 hl r x
  refine wpAny_mono (ht.run [] s1 (start N vs) H _ I hq) (fun fl s' hs => ?_) fun e s' hs => hs
  cases fl with
  | ret u =>
    obtain ⟨v, σ', H', J, rv, q⟩ := hs
    exact ⟨v, H', J.os, J.bare, J.base, J.hok, rv, q⟩
  | next =>
    obtain ⟨σ', H', J, q⟩ := hs
    exact ⟨V.non, H', J.os, J.bare, J.base, J.hok, rfl, q⟩
  | brk =>
    obtain ⟨_, _, _, q⟩ := hs
    exact False.elim q
  | cont =>
    obtain ⟨_, _, _, q⟩ := hs
    exact False.elim q
end
/-- what a callee lets out is taken at the caller's slots -/
def PassG (X : Cx) (σ : L2.St) (E : XK) : Prop := ∀ (pins : List (Addr × Obj)) (H : Hp) (s : Shared) (e : Value) (s' : Shared), Inv X pins σ H s → L2.CX X.prog X.w X.stack H s E e s' → X.xe e s'
theorem pass_none {X : Cx} {σ : L2.St} : PassG X σ E0 := fun _ _ _ _ _ _ h => by
  obtain ⟨_, _, _, _, _, _, _, _, _, _, _, _, z⟩ := h
  exact z.elim
theorem pass_takes {X : Cx} {W : L2.WX} {σ : L2.St} (tk : Takes X W) : PassG X σ (fun cls d H => W cls d σ H) :=
  fun _ _ _ e s' I c => tk e s' (XE.of_call I (fun _ _ _ h => h) c)
section
variable {X : Cx} {k : Nat} {f C : Addr} {ps ks : List Str} {sp : Sp} {dvs : List V} {ds : List Value} {E : L2.St → XK} {x m : Str} {p pos apos : Pos} {e o : Expr} {es : List Expr} {ta : TE} {t tk : TA} {kws : List Keyword}
theorem run_fnG {pins : List (Addr × Obj)} {σ : L2.St} {H : Hp} {s : Shared} {Q : VK} {us : List Value} {kw : List (Str × Value)} {ws : List Value} {zs : List V} (F : FnG X.prog X.w X.K X.mg X.base k f ps sp) (hgu : X.A.guards = some []) (hr : Room k X.A)
    (hx : PassG X σ (E σ)) (I : Inv X pins σ H s) (hb : BindsTo s (fdOf X.K f) ⟨us, kw⟩ (ps.zip ws)) (r : Vals zs ws) (h : sp zs H Q (E σ)) : wpAny (model X.prog X.w) X.A (call (.ref f) us kw) (EP X pins σ Q) X.xe s := by
  refine wpAny_call (codeAny_mono (F.run X.A X.stack s H ⟨us, kw⟩ ws zs Q (E σ) hgu hr I.env0 hb r h) fun r s' hq => ?_)
  cases r with
  | error e => exact hx pins H s e s' I hq
  | ok fl =>
    cases fl with
    | ret u => exact I.after hq
    | next => exact False.elim hq
    | brk => exact False.elim hq
    | cont => exact False.elim hq
def gCall (sp : Sp) (dvs : List V) (E : L2.St → XK) (t : TA) : TE := fun σ H Q => t σ H fun vs H1 => sp (vs ++ dvs) H1 Q (E σ)
theorem bind_of {ds : List Value} {dvs : List V} {s : Shared} {H : Hp} {Q : VK} {E : XK} {us : List Value} {vs : List V} (F : FnG X.prog X.w X.K X.mg X.base k f ps sp) (hb : Binds X.K (fdOf X.K f) ps ds) (hd : Vals dvs ds) (r : Vals vs us) (KX : X.K.In s.heap) (h : sp (vs ++ dvs) H Q E) :
    BindsTo s (fdOf X.K f) ⟨us, []⟩ (ps.zip (us ++ ds)) := by
  refine hb s us KX ?_
  rw [← (r.append hd).length]
  exact F.len _ _ _ _ h
theorem ge_call (F : FnG X.prog X.w X.K X.mg X.base k f ps sp) (hgu : X.A.guards = some []) (hr : Room k X.A) (hg : Gl X x) (hm : X.mg x = some (.ref f)) (hk : PySem.W.keepIn X.K (.ref f) = true) (hb : Binds X.K (fdOf X.K f) ps ds) (hd : Vals dvs ds) (hx : ∀ σ, PassG X σ (E σ))
    (ha : PA X (e :: es) t) (hdb : (x == ("__debug__" : Str)) = false := by decide) (he : starEach (e :: es) X.env = (false, eval e X.env) :: starEach es X.env := by rfl) (hpl : (backTo pos (starEach es X.env)).any (·.1) = false := by rfl) :
    PE X (.Call (.Name x p) (e :: es) [] pos) (gCall sp dvs E t) := by
  refine ⟨fun pins s σ H Q I h => ?_⟩
  refine wpAny_Call_Name_kw (ld_glob I hg hm ?_ hdb)
  refine PySem.W.callWith_K (h₀ := X.base) I.ok.mod.kin hk (thn (ha.run pos pins s σ H _ I h) fun us s1 ⟨vs, H1, I1, r, q⟩ => ⟨I1.kIn, ?_⟩) he hpl
  exact run_fnG F hgu hr (hx σ) I1 (bind_of F hb hd r I1.kIn q) (r.append hd) q
def gMeth (C : Addr) (m : Str) (sp : Sp) (dvs : List V) (E : L2.St → XK) (ta : TE) (t : TA) : TE := fun σ H Q => ta σ H fun x H1 => ∃ a dx fs, x = .ref a ∧ H1 a = some (.ins C dx fs) ∧ fs.lookup m = none ∧
  t σ H1 fun vs H2 => sp (x :: (vs ++ dvs)) H2 Q (E σ)
theorem ge_meth {pl : Sem Bool} (he : PE X o ta) (c : Cls X.K C) (hm : Meth X.K C m f) (F : FnG X.prog X.w X.K X.mg X.base k f ps sp) (hgu : X.A.guards = some []) (hr : Room k X.A) (hb : Binds X.K (fdOf X.K f) ps ds) (hd : Vals dvs ds) (hx : ∀ σ, PassG X σ (E σ)) (ha : PA X (e :: es) t)
    (hst : starEach (e :: es) X.env = (false, eval e X.env) :: starEach es X.env := by rfl) (hpl : (backTo pos (starEach es X.env)).any (·.1) = false := by rfl)
    (ht : eval (.Call (.Attribute o m apos) (e :: es) [] pos) X.env = (do
      let ov ← eval o X.env
      standAt apos.atName
      let (f, first) ← holding [ov] (getMethod ov m pl)
      callWith pos f first (backTo pos (starEach (e :: es) X.env)) (backToKw pos (keywordEach [] X.env))) := by rfl) :
    PE X (.Call (.Attribute o m apos) (e :: es) [] pos) (gMeth C m sp dvs E ta t) := by
  refine ⟨fun pins s σ H Q I h => ?_⟩
  refine PySem.W.methodCall_KW (pl := pl) (thn (he.run pins s σ H _ I h) fun u s1 ⟨x, H1, I1, rx, a, dx, fs, ex, ea, l, q⟩ => ?_) ht
  subst ex
  obtain rfl : u = Value.ref a := rx
  refine getmeth_ok I1 ea c hm l ?_
  refine PySem.W.callWith_K (first := [.ref a]) (h₀ := X.base) I.ok.mod.kin hm.kp (thn (ha.run pos pins s1 σ H1 _ I1 q) fun us s2 ⟨vs, H2, I2, r, q2⟩ => ⟨I2.kIn, ?_⟩) hst hpl
  have r2 : Vals (V.ref a :: vs) (Value.ref a :: us) := .cons rfl r
  exact run_fnG F hgu hr (hx σ) I2 (bind_of F hb hd r2 I2.kIn q2) (r2.append hd) q2
theorem ge_meth0 {pl : Sem Bool} (he : PE X o ta) (c : Cls X.K C) (hm : Meth X.K C m f) (F : FnG X.prog X.w X.K X.mg X.base k f ps sp) (hgu : X.A.guards = some []) (hr : Room k X.A) (hb : Binds X.K (fdOf X.K f) ps ds) (hd : Vals dvs ds) (hx : ∀ σ, PassG X σ (E σ))
    (ht : eval (.Call (.Attribute o m apos) [] [] pos) X.env = (do
      let ov ← eval o X.env
      standAt apos.atName
      let (f, first) ← holding [ov] (getMethod ov m pl)
      callWith pos f first (backTo pos (starEach [] X.env)) (backToKw pos (keywordEach [] X.env))) := by rfl) :
    PE X (.Call (.Attribute o m apos) [] [] pos) (gMeth C m sp dvs E ta tNil) := by
  refine ⟨fun pins s σ H Q I h => ?_⟩
  refine PySem.W.methodCall_KW (pl := pl) (thn (he.run pins s σ H _ I h) fun u s1 ⟨x, H1, I1, rx, a, dx, fs, ex, ea, l, q⟩ => ?_) ht
  subst ex
  obtain rfl : u = Value.ref a := rx
  refine getmeth_ok I1 ea c hm l ?_
  have r2 : Vals [V.ref a] [Value.ref a] := .cons rfl .nil
  have q2 : sp ([V.ref a] ++ dvs) H1 Q (E σ) := q
  exact PySem.W.callWith_K0 (first := [.ref a]) I1.kIn hm.kp (run_fnG F hgu hr (hx σ) I1 (bind_of F hb hd r2 I1.kIn q2) (r2.append hd) q2)
def gMake (C : Addr) (sp : Sp) (dvs : List V) (E : L2.St → XK) (t : TA) : TE := fun σ H Q => t σ H fun vs H1 => ∀ x dx, H1 x = none → H1 dx = none → dx ≠ x →
  sp (.ref x :: (vs ++ dvs)) (upd (upd H1 dx (.own x)) x (.ins C dx [])) (fun v H2 => v = .non ∧ Q (.ref x) H2) (E σ)
theorem make_guards {A : Around} {C : Addr} {us : List Value} {kw : List (Str × Value)} (h : A.guards = some []) : (A.under (.builtin "type.__call__" ⟨.ref C :: us, kw⟩)).guards = some [] := by
  simp [Around.under, Code.guards, Code.isGuard, guardIds, pushGuards, h]
theorem run_makeG {pins : List (Addr × Obj)} {σ : L2.St} {H : Hp} {s : Shared} {Q : VK} {us : List Value} {kw : List (Str × Value)} (M : Mk X.K C f) (F : FnG X.prog X.w X.K X.mg X.base k f ps sp) (hgu : X.A.guards = some []) (hr : Room (k + 1) X.A)
    (hx : PassG X σ (E σ)) (I : Inv X pins σ H s) (zs : V → List V) (ws : Value → List Value) (hb : ∀ (y : Addr) (s' : Shared), X.K.In s'.heap → BindsTo s' (fdOf X.K f) ⟨Value.ref y :: us, kw⟩ (ps.zip (ws (.ref y)))) (r : ∀ y, Vals (zs (.ref y)) (ws (.ref y)))
    (h : ∀ x dx, H x = none → H dx = none → dx ≠ x → sp (zs (.ref x)) (upd (upd H dx (.own x)) x (.ins C dx [])) (fun v H2 => v = .non ∧ Q (.ref x) H2) (E σ)) :
    wpAny (model X.prog X.w) X.A (call (.ref C) us kw) (EP X pins σ Q) X.xe s := by
  have hq := h (s.heap.objs.size + 1) s.heap.objs.size (I.hok.fresh (Nat.le_succ _)) (I.hok.fresh (Nat.le_refl _)) (Nat.ne_of_lt (Nat.lt_succ_self _))
  have I2 := Inv.made (C := C) I
  refine wpAny_call (make_map (f := f) I.kIn M.makes M.init (beq_iff_eq.mp M.fn) (codeAny_mono (F.run _ X.stack _ _ ⟨Value.ref (s.heap.objs.size + 1) :: us, kw⟩ _ _ _ (E σ) (make_guards hgu) (hr.make C us kw)
    (I2.env0.make C us kw) (hb _ _ I2.kIn) (r _) hq) fun r s' hq' => ?_))
  cases r with
  | error e => exact hx pins _ _ e s' I2 hq'
  | ok fl =>
    cases fl with
    | ret u =>
      obtain ⟨v, H', I3, rv, ev, q3⟩ := I2.after hq'
      subst ev
      exact ⟨rv, ⟨V.ref (s.heap.objs.size + 1), H', I3, rfl, q3⟩⟩
    | next => exact False.elim hq'
    | brk => exact False.elim hq'
    | cont => exact False.elim hq'
end
end Wk
set_option maxRecDepth 100000
set_option maxHeartbeats 4000000
namespace Wk
open PySem PySem.Spec PyProof.Rows L2
def kD : Key → PyData
  | .inl i => .int i
  | .inr x => .str x
mutual
/-- the value v stands for the tree -/
inductive Rep (H : Hp) : V → PyData → Prop
  | non : Rep H .non .none
  | bl (b : Bool) : Rep H (.bl b) (.bool b)
  | int (i : Int) : Rep H (.int i) (.int i)
  | str (x : Str) : Rep H (.str x) (.str x)
  | lst {a : Addr} {vs : List V} {ds : List PyData} : H a = some (.lst vs) → RepL H vs ds → Rep H (.ref a) (.list ds)
  | tup {a : Addr} {vs : List V} {ds : List PyData} : H a = some (.tup vs) → RepL H vs ds → Rep H (.ref a) (.tuple ds)
  | dict {a : Addr} {kvs : List (Key × V)} {ds : List (PyData × PyData)} : H a = some (.dK kvs) → RepK H kvs ds → Rep H (.ref a) (.dict ds)
inductive RepL (H : Hp) : List V → List PyData → Prop
  | nil : RepL H [] []
  | cons {v : V} {vs : List V} {d : PyData} {ds : List PyData} : Rep H v d → RepL H vs ds → RepL H (v :: vs) (d :: ds)
inductive RepK (H : Hp) : List (Key × V) → List (PyData × PyData) → Prop
  | nil : RepK H [] []
  | cons {k : Key} {v : V} {kvs : List (Key × V)} {d : PyData} {ds : List (PyData × PyData)} : Rep H v d → RepK H kvs ds → RepK H ((k, v) :: kvs) ((kD k, d) :: ds)
end
mutual
theorem Rep.mono {H H' : Hp} (e : Ex H H') : ∀ {v : V} {d : PyData}, Rep H v d → Rep H' v d
  | _, _, .non => .non
  | _, _, .bl b => .bl b
  | _, _, .int i => .int i
  | _, _, .str x => .str x
  | _, _, .lst h l => .lst (e _ _ h) (RepL.mono e l)
  | _, _, .tup h l => .tup (e _ _ h) (RepL.mono e l)
  | _, _, .dict h l => .dict (e _ _ h) (RepK.mono e l)
theorem RepL.mono {H H' : Hp} (e : Ex H H') : ∀ {vs : List V} {ds : List PyData}, RepL H vs ds → RepL H' vs ds
  | _, _, .nil => .nil
  | _, _, .cons h l => .cons (Rep.mono e h) (RepL.mono e l)
theorem RepK.mono {H H' : Hp} (e : Ex H H') : ∀ {vs : List (Key × V)} {ds : List (PyData × PyData)}, RepK H vs ds → RepK H' vs ds
  | _, _, .nil => .nil
  | _, _, .cons h l => .cons (Rep.mono e h) (RepK.mono e l)
end
theorem HI.rep {H D : Hp} {R : List (Addr × HO)} {v : V} {d : PyData} (h : HI H R D) (r : Rep D v d) : Rep H v d := r.mono h.sub
theorem RepL.length {H : Hp} : ∀ {vs : List V} {ds : List PyData}, RepL H vs ds → vs.length = ds.length
  | _, _, .nil => rfl
  | _, _, .cons _ l => congrArg Nat.succ (RepL.length l)
theorem RepL.get {H : Hp} : ∀ {vs : List V} {ds : List PyData} {i : Nat} {v : V}, RepL H vs ds → vs[i]? = some v → ∃ d, ds[i]? = some d ∧ Rep H v d
  | _, _, _, _, .nil, e => by simp at e
  | _, _, 0, _, .cons h _, e => by
    simp at e
    subst e
    exact ⟨_, rfl, h⟩
  | _, _, i + 1, _, .cons _ l, e => by
    obtain ⟨d, h1, h2⟩ := RepL.get (i := i) l (by simpa using e)
    exact ⟨d, by simpa using h1, h2⟩
theorem RepL.getD {H : Hp} : ∀ {vs : List V} {ds : List PyData} {i : Nat} {d : PyData}, RepL H vs ds → ds[i]? = some d → ∃ v, vs[i]? = some v ∧ Rep H v d
  | _, _, _, _, .nil, e => by simp at e
  | _, _, 0, _, .cons h _, e => by
    simp at e
    subst e
    exact ⟨_, rfl, h⟩
  | _, _, i + 1, _, .cons _ l, e => by
    obtain ⟨d, h1, h2⟩ := RepL.getD (i := i) l (by simpa using e)
    exact ⟨d, by simpa using h1, h2⟩
theorem RepL.append {H : Hp} : ∀ {vs ws : List V} {ds es : List PyData}, RepL H vs ds → RepL H ws es → RepL H (vs ++ ws) (ds ++ es)
  | _, _, _, _, .nil, r => r
  | _, _, _, _, .cons h l, r => .cons h (RepL.append l r)
theorem RepL.take {H : Hp} : ∀ {vs : List V} {ds : List PyData} (n : Nat), RepL H vs ds → RepL H (vs.take n) (ds.take n)
  | _, _, 0, _ => .nil
  | _, _, _ + 1, .nil => .nil
  | _, _, n + 1, .cons h l => .cons h (RepL.take n l)
theorem RepL.drop {H : Hp} : ∀ {vs : List V} {ds : List PyData} (n : Nat), RepL H vs ds → RepL H (vs.drop n) (ds.drop n)
  | _, _, 0, r => r
  | _, _, _ + 1, .nil => .nil
  | _, _, n + 1, .cons _ l => RepL.drop n l
theorem RepL.snoc {H : Hp} {vs : List V} {ds : List PyData} {v : V} {d : PyData} (l : RepL H vs ds) (h : Rep H v d) : RepL H (vs ++ [v]) (ds ++ [d]) := l.append (.cons h .nil)
section
variable {X : Cx} {pins : List (Addr × Obj)} {σ : L2.St} {H : Hp} {s : Shared}
/-- the written part holds the table of modules -/
def HasSys (K : PySem.W.Frag) : Prop := ∃ o, K.lookup sysModules = some o
theorem not_sys (I : Inv X pins σ H s) (hs : HasSys X.K) {a : Addr} {o : HO} (h : H a = some o) : a ≠ sysModules := fun e => by
  obtain ⟨ob, ho⟩ := hs
  have z := (I.bs sysModules ob (I.ok.mod.kin _ _ ho)).2
  rw [e, z] at h
  cases h
theorem reads_kd {h : Heap} : ∀ {k : Key} {u : Value}, keyIs k u = true → ∃ as, Reads h u (kD k) as ∧ sysModules ∉ as
  | .inl i, u, e => by
    obtain ⟨t, rfl⟩ := Value.isInt_shape (k := i) (v := u) e
    exact ⟨_, Reads.int i t, by simp⟩
  | .inr x, u, e => by
    obtain ⟨t, rfl⟩ := Value.isStrOf_shape (x := x) (v := u) e
    exact ⟨_, Reads.str x t, by simp⟩
mutual
theorem Rep.reads (I : Inv X pins σ H s) (hs : HasSys X.K) : ∀ {v : V} {d : PyData} {u : Value}, Rep H v d → RelV v u → ∃ as, Reads s.heap u d as ∧ sysModules ∉ as
  | _, _, _, .non, r => by
    cases r
    exact ⟨_, Reads.none, by simp⟩
  | _, _, _, .bl b, r => by
    cases r
    exact ⟨_, Reads.bool b, by simp⟩
  | _, _, _, .int i, r => by
    obtain ⟨t, rfl⟩ := r
    exact ⟨_, Reads.int i t, by simp⟩
  | _, _, _, .str x, r => by
    obtain ⟨t, rfl⟩ := r
    exact ⟨_, Reads.str x t, by simp⟩
  | _, _, _, .lst h l, r => by
    cases r
    obtain ⟨its, rv, ⟨o, n, ho, hc, _, hd⟩, _⟩ := I.list (SqL.of h)
    obtain ⟨as, hr, hn⟩ := RepL.reads I hs l rv
    exact ⟨_, Reads.list ho hc hd hr, by
      rw [List.mem_cons]
      exact not_or.mpr ⟨(not_sys I hs h).symm, hn⟩⟩
  | _, _, _, .tup h l, r => by
    cases r
    obtain ⟨its, rv, ⟨o, ho, hc, n, hd⟩, _⟩ := I.tuple (SqT.of h)
    obtain ⟨as, hr, hn⟩ := RepL.reads I hs l rv
    exact ⟨_, Reads.tuple ho hc hd hr, hn⟩
  | _, _, _, .dict h l, r => by
    cases r
    obtain ⟨_, _, vs, rv, o, es, ep, ho, hx, hd, _, hp, _⟩ := I.hok _ _ h
    obtain ⟨as, bs, h1, h2, n1, n2⟩ := RepK.reads I hs l rv hp
    exact ⟨_, Reads.dict ho hx.1 hd h1 h2, by
      rw [List.cons_append, List.mem_cons, List.mem_append]
      exact not_or.mpr ⟨(not_sys I hs h).symm, not_or.mpr ⟨n1, n2⟩⟩⟩
theorem RepL.reads (I : Inv X pins σ H s) (hs : HasSys X.K) : ∀ {vs : List V} {ds : List PyData} {us : List Value}, RepL H vs ds → Vals vs us → ∃ as, ReadsAll s.heap us ds as ∧ sysModules ∉ as
  | _, _, _, .nil, r => by
    cases r
    exact ⟨_, ReadsAll.nil, by simp⟩
  | _, _, _, .cons h l, r => by
    cases r with
    | cons r1 r2 =>
      obtain ⟨as, q1, n1⟩ := Rep.reads I hs h r1
      obtain ⟨bs, q2, n2⟩ := RepL.reads I hs l r2
      exact ⟨_, ReadsAll.cons q1 q2, by
        rw [List.mem_append]
        exact not_or.mpr ⟨n1, n2⟩⟩
theorem RepK.reads (I : Inv X pins σ H s) (hs : HasSys X.K) : ∀ {kvs : List (Key × V)} {ds : List (PyData × PyData)} {us : List (Key × Value)} {es : List DictEntry}, RepK H kvs ds → KV kvs us → Pairs (mixKind X.prog X.w) es us →
    ∃ as bs, ReadsAll s.heap (es.map (·.key)) (ds.map (·.1)) as ∧ ReadsAll s.heap (es.map (·.val)) (ds.map (·.2)) bs ∧ sysModules ∉ as ∧ sysModules ∉ bs
  | _, _, _, _, .nil, r, p => by
    cases r
    cases p
    exact ⟨_, _, ReadsAll.nil, ReadsAll.nil, by simp, by simp⟩
  | _, _, _, _, .cons h l, r, p => by
    cases r with
    | cons r1 r2 =>
      cases p with
      | cons p1 p2 p3 =>
        obtain ⟨e1, e2⟩ := r1
        obtain ⟨as, bs, q1, q2, n1, n2⟩ := RepK.reads I hs l r2 p3
        rw [← e1] at p1
        obtain ⟨a1, g1, m1⟩ := reads_kd (h := s.heap) (show keyIs _ _ = true from p1)
        rw [← p2] at e2
        obtain ⟨a2, g2, m2⟩ := Rep.reads I hs h e2
        exact ⟨_, _, ReadsAll.cons g1 q1, ReadsAll.cons g2 q2, by
          rw [List.mem_append]
          exact not_or.mpr ⟨m1, n1⟩, by
          rw [List.mem_append]
          exact not_or.mpr ⟨m2, n2⟩⟩
end
end
/-- repr(x) -/
def rRepr : List V → Hp → VK → Prop := fun xs H Q => ∃ x d, xs = [x] ∧ Rep H x d ∧ d.showable = true ∧ d.shown.length ≤ sizeLine ∧ d.depth ≤ 60 ∧ Q (.str d.shown) H
theorem call_repr {X : Cx} {k : Nat} (hgu : X.A.guards = some []) (hr : Room k X.A) (hs : HasSys X.K) : CallR X (.builtin "repr") rRepr := by
  intro pins s σ H xs us Q I r h
  obtain ⟨x, d, rfl, hx, h1, h2, h3, q⟩ := h
  obtain ⟨u, rfl, ru⟩ := vals1 r
  have hu := hr.units
  have fin : ∀ h' t tk, (∀ b o, s.heap.get? b = some o → h'.get? b = some o) → EP X pins σ Q (.str d.shown t) { s with heap := h', toks := tk } := fun h' t tk k => ⟨.str d.shown, H, I.kept k, ⟨_, rfl⟩, q⟩
  cases hx with
  | non => cases ru; exact P.repr_of_none (fin s.heap _ _ fun _ _ e => e)
  | bl b => cases ru; exact P.repr_of_bool (fin s.heap _ _ fun _ _ e => e)
  | int i =>
    obtain ⟨t, rfl⟩ := ru
    exact P.repr_of_int (by simpa [PyData.showable] using h1) (fin s.heap _ _ fun _ _ e => e)
  | str z =>
    obtain ⟨t, rfl⟩ := ru
    exact P.repr_of_str (fin s.heap _ _ fun _ _ e => e) h2
  | lst e l =>
    obtain ⟨as, hrd, hn⟩ := Rep.reads I hs (.lst e l) ru
    cases ru
    exact repr_of_reads' hrd h1 (fun _ => hn) hgu (by omega) (fun _ _ e => e) (fun h' u tk k => fin h' u tk k) h2
  | tup e l =>
    obtain ⟨as, hrd, hn⟩ := Rep.reads I hs (.tup e l) ru
    cases ru
    exact repr_of_reads' hrd h1 (fun _ => hn) hgu (by omega) (fun _ _ e => e) (fun h' u tk k => fin h' u tk k) h2
  | dict e l =>
    obtain ⟨as, hrd, hn⟩ := Rep.reads I hs (.dict e l) ru
    cases ru
    exact repr_of_reads' hrd h1 (fun _ => hn) hgu (by omega) (fun _ _ e => e) (fun h' u tk k => fin h' u tk k) h2
end Wk
set_option maxRecDepth 100000
set_option maxHeartbeats 4000000
namespace Wk
open PySem PySem.Spec PyProof.Rows L2
inductive RAdd : V → V → Hp → VK → Prop
  | int {i j : Int} {H : Hp} {Q : VK} : Q (.int (i + j)) H → RAdd (.int i) (.int j) H Q
  | str {a b : Str} {H : Hp} {Q : VK} : a.length + b.length ≤ sizeLine → Q (.str (a ++ b)) H → RAdd (.str a) (.str b) H Q
  | lst {p q : Addr} {xs ys : List V} {H : Hp} {Q : VK} : H p = some (.lst xs) → H q = some (.lst ys) → xs.length + ys.length ≤ sizeLine → AlD (.lst (xs ++ ys)) H Q → RAdd (.ref p) (.ref q) H Q
  | tup {p q : Addr} {xs ys : List V} {H : Hp} {Q : VK} : H p = some (.tup xs) → H q = some (.tup ys) → xs ≠ [] → ys ≠ [] → xs.length + ys.length ≤ sizeLine → AlD (.tup (xs ++ ys)) H Q → RAdd (.ref p) (.ref q) H Q
  | tup0 {p q : Addr} {xs : List V} {H : Hp} {Q : VK} : H p = some (.tup xs) → H q = some (.tup []) → xs ≠ [] → xs.length ≤ sizeLine → Q (.ref p) H → RAdd (.ref p) (.ref q) H Q
section
variable {X : Cx}
theorem op_addU : OpR X (binaryOp .Add) (RAdd) := by
  intro pins s σ H x y v u Q I rx ry h
  cases h with
  | int q => exact op_add pins s σ H _ _ v u Q I rx ry ⟨_, _, rfl, rfl, q⟩
  | str hl q => exact op_add_str pins s σ H _ _ v u Q I rx ry ⟨_, _, rfl, rfl, hl, q⟩
  | lst h1 h2 hl q => exact op_cat pins s σ H _ _ v u Q I rx ry ⟨_, _, _, _, rfl, rfl, h1, h2, hl, q⟩
  | tup h1 h2 n1 n2 hl q => exact op_catT pins s σ H _ _ v u Q I rx ry ⟨_, _, _, _, rfl, rfl, SqT.of h1, SqT.of h2, n1, hl, fun e => absurd e n2, fun _ => q⟩
  | tup0 h1 h2 n1 hl q => exact op_catT pins s σ H _ _ v u Q I rx ry ⟨_, _, _, _, rfl, rfl, SqT.of h1, SqT.of h2, n1, hl, fun _ => q, fun n => absurd rfl n⟩
end
/-- a text, written n times -/
def strRep (a : Str) (n : Nat) : Str := ⟨(List.replicate n a.cps).foldl (· ++ ·) #[]⟩
inductive RMul : V → V → Hp → VK → Prop
  | str {a : Str} {k : Int} {H : Hp} {Q : VK} : 1 ≤ a.length → a.length ≤ 1000 → 1 ≤ k → k ≤ 1000 → Q (.str (strRep a k.toNat)) H → RMul (.str a) (.int k) H Q
  | int {i j : Int} {H : Hp} {Q : VK} : CMul i j → Q (.int (i * j)) H → RMul (.int i) (.int j) H Q
  | lst {p : Addr} {k : Int} {xs : List V} {H : Hp} {Q : VK} : H p = some (.lst xs) → -(2 ^ 63) ≤ k → k < 2 ^ 63 → xs.length * k.toNat ≤ sizeLine → AlD (.lst (List.replicate k.toNat xs).flatten) H Q → RMul (.ref p) (.int k) H Q
section
variable {X : Cx}
theorem op_mulU : OpR X (binaryOp .Mult) (RMul) := by
  intro pins s σ H x y v u Q I rx ry h
  cases h with
  | @str a k _ _ a0 a1 k0 k1 q =>
    obtain ⟨t, rfl⟩ := rx
    obtain ⟨t', rfl⟩ := ry
    have e1 : decide (k < -(2 ^ 63 : Int)) = false := decide_eq_false (by omega)
    have e2 : decide (k ≥ 2 ^ 63) = false := decide_eq_false (by omega)
    have hm : a.length * k.toNat ≤ 1000 * 1000 := Nat.mul_le_mul a1 (by omega)
    refine PySem.P.mul_str (by rw [e1, e2]; rfl) (fun _ _ => ?_) (fun _ _ => ?_) ?_
    · have : (1000 : Int) ≤ (2 ^ 63 - 1) / k := by
        refine Int.le_ediv_of_mul_le (by omega) ?_
        have : 1000 * k ≤ 1000 * 1000 := by omega
        omega
      omega
    · show decide (a.length * k.toNat > sizeLine) = false
      rw [sizeLine_eq]
      exact decide_eq_false (by omega)
    · rw [if_neg (by omega)]
      by_cases h1 : k = 1
      · subst h1
        have e : strRep a (Int.toNat 1) = a := by
          show (⟨#[] ++ a.cps⟩ : Str) = a
          obtain ⟨x⟩ := a
          simp
        rw [e] at q
        exact ⟨.str a, H, I, ⟨t, rfl⟩, q⟩
      · have e3 : (k == 1 || a.length == 0) = false := by
          rw [Bool.or_eq_false_iff]
          exact ⟨beq_eq_false_iff_ne.mpr h1, beq_eq_false_iff_ne.mpr (by omega)⟩
        rw [e3]
        have hl : (strRep a k.toNat).length ≤ sizeLine := by
          have : ∀ (n : Nat) (acc : Array Nat), ((List.replicate n a.cps).foldl (· ++ ·) acc).size = acc.size + a.length * n := by
            intro n
            induction n with
            | zero => intro acc; simp
            | succ n ih =>
              intro acc
              rw [List.replicate_succ, List.foldl_cons, ih, Array.size_append, Nat.mul_succ]
              have : a.cps.size = a.length := rfl
              omega
          show ((List.replicate k.toNat a.cps).foldl (· ++ ·) #[]).size ≤ sizeLine
          rw [this, sizeLine_eq]
          simp
          omega
        exact ⟨hl, .str _, H, I.tok _, ⟨_, rfl⟩, q⟩
  | int hc q => exact op_mul pins s σ H _ _ v u Q I rx ry ⟨_, _, rfl, rfl, hc, q⟩
  | lst h1 h2 h3 hl q => exact op_rep pins s σ H _ _ v u Q I rx ry ⟨_, _, _, rfl, rfl, h1, h2, h3, hl, q⟩
end
mutual
theorem Rep.dp {K : PySem.W.Frag} {H : Hp} : ∀ {v : V} {d : PyData}, Rep H v d → d.hasDict = false → Dp K H v d
  | _, _, .non, _ => .non
  | _, _, .bl b, _ => .bl b
  | _, _, .int i, _ => .int i
  | _, _, .str x, _ => .str x
  | _, _, .lst h l, n => .lst (SqL.of h) (RepL.dp l (by simpa [PyData.hasDict] using n))
  | _, _, .tup h l, n => .tup (SqT.of h) (RepL.dp l (by simpa [PyData.hasDict] using n))
  | _, _, .dict h l, n => by simp [PyData.hasDict] at n
theorem RepL.dp {K : PySem.W.Frag} {H : Hp} : ∀ {vs : List V} {ds : List PyData}, RepL H vs ds → PyData.hasDictAll ds = false → DpAll K H vs ds
  | _, _, .nil, _ => .nil
  | _, _, .cons h l, n => by
    simp only [PyData.hasDictAll, Bool.or_eq_false_iff] at n
    exact .cons (Rep.dp h n.1) (RepL.dp l n.2)
end
inductive REq (neg : Bool) : V → V → Hp → VK → Prop
  | scal {x y : V} {H : Hp} {Q : VK} : scal x y = true → Q (.bl (if neg then !decide (x = y) else decide (x = y))) H → REq neg x y H Q
  | dat {x y : V} {d e : PyData} {H : Hp} {Q : VK} : Rep H x d → Rep H y e → d.hasDict = false → e.hasDict = false → SeqAt.shaped d = true → SeqAt.shaped e = true → Q (.bl (if neg then !PyData.eqv d e else PyData.eqv d e)) H → REq neg x y H Q
section
variable {X : Cx}
theorem op_eqU (hu : X.A.units + 64 < cLine) : OpR X (compareOp .Eq) (REq false) := by
  intro pins s σ H x y v u Q I rx ry h
  cases h with
  | scal h1 q => exact op_eq pins s σ H _ _ v u Q I rx ry ⟨h1, q⟩
  | dat h1 h2 n1 n2 s1 s2 q => exact op_eqD hu pins s σ H _ _ v u Q I rx ry ⟨_, _, h1.dp n1, h2.dp n2, s1, s2, q⟩
theorem op_neU (hu : X.A.units + 64 < cLine) : OpR X (compareOp .NotEq) (REq true) := by
  intro pins s σ H x y v u Q I rx ry h
  cases h with
  | scal h1 q => exact op_ne pins s σ H _ _ v u Q I rx ry ⟨h1, q⟩
  | dat h1 h2 n1 n2 s1 s2 q => exact op_neD hu pins s σ H _ _ v u Q I rx ry ⟨_, _, h1.dp n1, h2.dp n2, s1, s2, q⟩
end
inductive RIn (neg : Bool) : V → V → Hp → VK → Prop
  | sign {c : Nat} {z : Str} {H : Hp} {Q : VK} : Q (.bl (if neg then !decide (c ∈ z.cps.toList) else decide (c ∈ z.cps.toList))) H → RIn neg (.str ⟨#[c]⟩) (.str z) H Q
  | lst {x : V} {p : Addr} {xs : List V} {H : Hp} {Q : VK} : H p = some (.lst xs) → flatV x = true → xs.all flatV = true → Q (.bl (if neg then !inV x xs else inV x xs)) H → RIn neg x (.ref p) H Q
section
variable {X : Cx}
theorem op_inU : OpR X (compareOp .In) (RIn false) := by
  intro pins s σ H x y v u Q I rx ry h
  cases h with
  | sign q => exact op_in_sign pins s σ H _ _ v u Q I rx ry ⟨_, _, rfl, rfl, q⟩
  | lst h1 h2 h3 q => exact op_in_seq pins s σ H _ _ v u Q I rx ry ⟨_, _, rfl, .inl (SqL.of h1), h2, h3, q⟩
theorem op_niU : OpR X (compareOp .NotIn) (RIn true) := by
  intro pins s σ H x y v u Q I rx ry h
  cases h with
  | sign q => exact op_notIn_sign pins s σ H _ _ v u Q I rx ry ⟨_, _, rfl, rfl, q⟩
  | lst h1 h2 h3 q => exact op_notIn_seq pins s σ H _ _ v u Q I rx ry ⟨_, _, rfl, .inl (SqL.of h1), h2, h3, q⟩
end
theorem is_bl_rel {prog : Program} {w : World} {A : Around} {E : Value → Shared → Prop} {s : Shared} {x : V} {v : Value} {b : Bool} {Q : Value → Shared → Prop} (r : RelV x v) (h : Q (.bool (decide (x = .bl b))) s) : wpAny (model prog w) A (compareOp .Is v (.bool b)) Q E s := by
  cases x with
  | non => cases r; exact wpAny_pure (a := Value.bool false) (by simpa using h)
  | bl c =>
    cases r
    refine is_bool ?_
    rw [show (c == b) = decide (V.bl c = .bl b) from dec_bl.symm]
    exact h
  | int _ => obtain ⟨t, rfl⟩ := r; exact wpAny_pure (a := Value.bool false) (by simpa using h)
  | str _ => obtain ⟨t, rfl⟩ := r; exact wpAny_pure (a := Value.bool false) (by simpa using h)
  | byt _ => obtain ⟨t, rfl⟩ := r; exact wpAny_pure (a := Value.bool false) (by simpa using h)
  | flt _ => obtain ⟨t, rfl⟩ := r; exact wpAny_pure (a := Value.bool false) (by simpa using h)
  | ref _ => cases r; exact wpAny_pure (a := Value.bool false) (by simpa using h)
  | ty _ => cases r; exact wpAny_pure (a := Value.bool false) (by simpa using h)
inductive RIs (neg : Bool) : V → V → Hp → VK → Prop
  | non {x : V} {H : Hp} {Q : VK} : Q (.bl (if neg then !decide (x = .non) else decide (x = .non))) H → RIs neg x .non H Q
  | bl {x : V} {b : Bool} {H : Hp} {Q : VK} : Q (.bl (if neg then !decide (x = .bl b) else decide (x = .bl b))) H → RIs neg x (.bl b) H Q
section
variable {X : Cx}
theorem op_isU : OpR X (compareOp .Is) (RIs false) := by
  intro pins s σ H x y v u Q I rx ry h
  cases h with
  | non q => exact op_isN pins s σ H _ _ v u Q I rx ry ⟨rfl, q⟩
  | bl q =>
    cases ry
    exact is_bl_rel rx ⟨.bl _, H, I, rfl, q⟩
end
inductive RLen : List V → Hp → VK → Prop
  | str {z : Str} {H : Hp} {Q : VK} : z.length ≤ sizeLine → Q (.int z.length) H → RLen [.str z] H Q
  | lst {p : Addr} {xs : List V} {H : Hp} {Q : VK} : H p = some (.lst xs) → Q (.int xs.length) H → RLen [.ref p] H Q
  | tup {p : Addr} {xs : List V} {H : Hp} {Q : VK} : H p = some (.tup xs) → Q (.int xs.length) H → RLen [.ref p] H Q
  | dict {p : Addr} {xs : List (Key × V)} {H : Hp} {Q : VK} : H p = some (.dK xs) → Q (.int xs.length) H → RLen [.ref p] H Q
  | frz {p : Addr} {o : Obj} {xs : List V} {H : Hp} {Q : VK} : H p = some (.frz o (.lst xs)) → Q (.int xs.length) H → RLen [.ref p] H Q
theorem call_lenU {X : Cx} : CallR X (.builtin "len") RLen := by
  intro pins s σ H xs us Q I r h
  cases h with
  | str h1 q => exact call_len_str pins s σ H _ us Q I r ⟨_, rfl, h1, q⟩
  | lst h1 q => exact call_len_seq pins s σ H _ us Q I r ⟨_, _, rfl, .inl (SqL.of h1), q⟩
  | tup h1 q => exact call_len_seq pins s σ H _ us Q I r ⟨_, _, rfl, .inr (SqT.of h1), q⟩
  | dict h1 q => exact call_lenD pins s σ H _ us Q I r ⟨_, _, rfl, h1, q⟩
  | frz h1 q => exact call_len_seq pins s σ H _ us Q I r ⟨_, _, rfl, .inl (.inl (.inr ⟨_, h1⟩)), q⟩
inductive RSl : V → Option Int → Option Int → Hp → VK → Prop
  | str {z : Str} {lo hi : Option Int} {H : Hp} {Q : VK} : z.length ≤ sizeLine → Q (.str (cutS z lo hi)) H → RSl (.str z) lo hi H Q
  | lst {p : Addr} {xs : List V} {lo hi : Option Int} {H : Hp} {Q : VK} : H p = some (.lst xs) → AlD (.lst (cutV xs lo hi)) H Q → RSl (.ref p) lo hi H Q
section
variable {X : Cx}
theorem sl_U : SlR X (RSl) := by
  intro pins s σ H x v lo hi vl vu sl Q I rx hs h1 h2 h
  cases h with
  | str hz q => exact sl_str pins s σ H _ v _ _ vl vu sl Q I rx hs h1 h2 ⟨_, rfl, hz, q⟩
  | lst hl q => exact sl_list pins s σ H _ v _ _ vl vu sl Q I rx hs h1 h2 ⟨_, _, rfl, SqL.of hl, q⟩
theorem pe_lstM {es : List Expr} {t : TA} {pos : Pos} (h : PA X es t) : PE X (.List es pos) (tLstM t) := pe_lst h
end
theorem cdiv_of {i j : Int} (h0 : 0 < j) (h1 : j < 2 ^ 100) : CDivW i j := wide_div (b := 100) h0 (by omega) (by decide) (by decide)
theorem mod_let {i j : Int} {H : Hp} {Q : VK} (h : 0 < j) (k : ∀ r, 0 ≤ r → r < j → Q (.int r) H) : rI (fun _ j => 0 < j) (fun i j => .int (i % j)) (.int i) (.int j) H Q :=
  ⟨i, j, rfl, rfl, h, k _ (Int.emod_nonneg _ (by omega)) (Int.emod_lt_of_pos _ h)⟩
theorem pow_ok {r c z d : Int} (h1 : 0 ≤ r) (h2 : r < 2147483648) (h3 : 0 ≤ c) (h4 : c ≤ 200000) (h5 : 0 ≤ z) (h6 : z ≤ 1000001) (h7 : 0 ≤ d) (h8 : d ≤ 1000) : (r / 8 + c * z * z + d).natAbs < 2 ^ 64 := by
  have a1 : z * z ≤ 1000001 * 1000001 := Int.mul_le_mul h6 h6 h5 (by omega)
  have a2 : 0 ≤ z * z := Int.mul_nonneg h5 h5
  have a3 : c * (z * z) ≤ 200000 * (1000001 * 1000001) := Int.mul_le_mul h4 a1 a2 (by omega)
  have a4 : 0 ≤ c * (z * z) := Int.mul_nonneg h3 a2
  rw [Int.mul_assoc]
  omega
inductive RIx : V → V → Hp → VK → Prop
  | l {p : Addr} {xs : List V} {i : Int} {v : V} {H : Hp} {Q : VK} : H p = some (.lst xs) → atI xs i = some v → Q v H → RIx (.ref p) (.int i) H Q
  | t {p : Addr} {xs : List V} {i : Int} {v : V} {H : Hp} {Q : VK} : H p = some (.tup xs) → atI xs i = some v → Q v H → RIx (.ref p) (.int i) H Q
  | f {p : Addr} {o : Obj} {xs : List V} {i : Int} {v : V} {H : Hp} {Q : VK} : H p = some (.frz o (.lst xs)) → atI xs i = some v → Q v H → RIx (.ref p) (.int i) H Q
  | s {z : Str} {i : Int} {c : Nat} {H : Hp} {Q : VK} : z.length ≤ sizeLine → atI z.cps.toList i = some c → Q (.str ⟨#[c]⟩) H → RIx (.str z) (.int i) H Q
theorem ix_U {X : Cx} : IxR X RIx := by
  intro a b pins s σ H x y v u Q I rx ry h hs
  cases h with
  | l e1 e2 q => exact ix_seq a b pins s σ H _ _ v u Q I rx ry (.inl ⟨_, _, _, _, rfl, rfl, SqL.of e1, e2, q⟩) hs
  | t e1 e2 q => exact ix_seq a b pins s σ H _ _ v u Q I rx ry (.inr (.inl ⟨_, _, _, _, rfl, rfl, SqT.of e1, e2, q⟩)) hs
  | f e1 e2 q => exact ix_seq a b pins s σ H _ _ v u Q I rx ry (.inl ⟨_, _, _, _, rfl, rfl, .inl (.inr ⟨_, e1⟩), e2, q⟩) hs
  | s e1 e2 q => exact ix_seq a b pins s σ H _ _ v u Q I rx ry (.inr (.inr ⟨_, _, _, rfl, rfl, e1, e2, q⟩)) hs
theorem setL {p : Addr} {xs : List V} {k : Int} {j : Nat} {v : V} {H : Hp} {Q : Hp → Prop} (h : H p = some (.lst xs)) (e : ixN xs.length k = some j) (q : Q (upd H p (.lst (xs.set j v)))) : rSetL (.ref p) (.int k) v H Q := ⟨p, xs, k, j, rfl, rfl, h, e, q⟩
theorem set_c {p : Addr} {xs : List V} {R : List (Addr × HO)} {k : Int} {j : Nat} {v : V} {H D : Hp} {Q : Hp → Prop} (hi : HI H ((p, .lst xs) :: R) D) (e : ixN xs.length k = some j) (q : ∀ H', HI H' ((p, .lst (xs.set j v)) :: R) D → Q H') : rSetL (.ref p) (.int k) v H Q :=
  setL (hi.get (List.mem_cons_self ..)) e (q _ hi.set)
theorem set_c2 {p : Addr} {xs : List V} {y : Addr × HO} {R : List (Addr × HO)} {k : Int} {j : Nat} {v : V} {H D : Hp} {Q : Hp → Prop} (hi : HI H (y :: (p, .lst xs) :: R) D) (e : ixN xs.length k = some j) (q : ∀ H', HI H' (y :: (p, .lst (xs.set j v)) :: R) D → Q H') : rSetL (.ref p) (.int k) v H Q :=
  setL (hi.get (List.mem_cons_of_mem _ (List.mem_cons_self ..))) e (q _ hi.set2)
theorem set_c3 {p : Addr} {xs : List V} {y z : Addr × HO} {R : List (Addr × HO)} {k : Int} {j : Nat} {v : V} {H D : Hp} {Q : Hp → Prop} (hi : HI H (y :: z :: (p, .lst xs) :: R) D) (e : ixN xs.length k = some j) (q : ∀ H', HI H' (y :: z :: (p, .lst (xs.set j v)) :: R) D → Q H') : rSetL (.ref p) (.int k) v H Q :=
  setL (hi.get (List.mem_cons_of_mem _ (List.mem_cons_of_mem _ (List.mem_cons_self ..)))) e (q _ hi.set3)
end Wk
set_option maxRecDepth 100000
set_option maxHeartbeats 4000000
namespace Wk
open PySem PySem.Spec PyProof.Rows L2
abbrev Cells := List (Addr × HO)
/-- what a for asks of its walk -/
def ForK (J : It) (g : TG) (tb : TS) (D : Ends) (σ : L2.St) (H : Hp) : Prop := ∃ W : Nat → Nat → L2.St → Hp → Prop, (∃ m, W 0 m σ H) ∧ ∀ i m σ H, W i m σ H →
  (J.stop i H ∧ D.nx σ H) ∨ (J.go i H ∧ ∃ N : L2.St → Hp → Prop, (∀ σ' H', N σ' H' → ∃ m', m' < m ∧ W (i + 1) m' σ' H') ∧ ∀ x H', J.yld i H x H' → g x σ H' fun σ2 H2 => tb { D with nx := N, ct := N, bk := D.nx } σ2 H2)
/-- what a comprehension asks of its walk -/
def LcK (J : It) (g : TG) (tt : TT) (te : TE) (vs : List Nat) (σ : L2.St) (H1 : Hp) (Q : VK) : Prop := ∀ D, H1 D = none → ∃ W : Nat → Nat → Hp → Prop, (∃ m, W 0 m (upd H1 D (.lst []))) ∧ ∀ i m H, W i m H →
  (J.stop i H ∧ Q (.ref D) H) ∨ (J.go i H ∧ ∃ Nx : Hp → Prop, (∀ H', Nx H' → ∃ m', m' < m ∧ W (i + 1) m' H') ∧ ∀ x H', J.yld i H x H' → g x (wipe σ vs) H' fun σ2 H2 => wipe σ2 vs = wipe σ vs ∧ tt σ2 H2 fun b H3 =>
    if b = true then te σ2 H3 fun y H4 => ∃ acc, H4 D = some (.lst acc) ∧ acc.length < sizeLine ∧ Nx (upd H4 D (.lst (acc ++ [y]))) else Nx H3)
section
variable {K : PySem.W.Frag} {σ : L2.St} {H : Hp} {Q : VK} {D : Ends} {ta : TA} {te tl : TE} {tt : TT} {g : TG} {tb : TS} {wi : TI} {vs : List Nat} {R : It → Hp → Prop}
theorem st_for (h : wi σ H fun J H1 => ForK J g tb D σ H1) : tFor wi g tb D σ H := h
theorem se_lc (h : wi σ H fun J H1 => LcK J g tt te vs σ H1 Q) : tLc wi g tt te vs σ H Q := h
theorem it_rng1 (h : ta σ H fun vs H1 => ∃ j : Int, vs = [.int j] ∧ -(2 ^ 62) ≤ j ∧ j < 2 ^ 62 ∧ R (Itr 0 j.toNat) H1) : iRng1 ta σ H R := h
theorem it_rng2 (h : ta σ H fun vs H1 => ∃ i j : Int, vs = [.int i, .int j] ∧ (-(2 ^ 62) ≤ i ∧ i < 2 ^ 62 ∧ -(2 ^ 62) ≤ j ∧ j < 2 ^ 62) ∧ R (Itr i (j - i).toNat) H1) : iRng2 ta σ H R := h
theorem it_list (h : tl σ H fun x H1 => ∃ a, x = .ref a ∧ (∃ xs, SqL K H1 a xs) ∧ R (Itl K a) H1) : iList K tl σ H R := h
theorem it_str (h : tl σ H fun v H1 => ∃ x, v = .str x ∧ R (Its x) H1) : iStr tl σ H R := h
theorem rng1_mk {n : Int} {P : Int → Prop} (h1 : -(2 ^ 62) ≤ n) (h2 : n < 2 ^ 62) (q : P n) : ∃ j : Int, [V.int n] = [.int j] ∧ -(2 ^ 62) ≤ j ∧ j < 2 ^ 62 ∧ P j := ⟨n, rfl, h1, h2, q⟩
theorem rng2_mk {a b : Int} {P : Int → Int → Prop} (h1 : -(2 ^ 62) ≤ a ∧ a < 2 ^ 62 ∧ -(2 ^ 62) ≤ b ∧ b < 2 ^ 62) (q : P a b) : ∃ i j : Int, [V.int a, V.int b] = [.int i, .int j] ∧ (-(2 ^ 62) ≤ i ∧ i < 2 ^ 62 ∧ -(2 ^ 62) ≤ j ∧ j < 2 ^ 62) ∧ P i j := ⟨a, b, rfl, h1, q⟩
theorem list_mk {a : Addr} {xs : List V} {P : Addr → Prop} (h : H a = some (.lst xs)) (q : P a) : ∃ b, V.ref a = .ref b ∧ (∃ xs, SqL K H b xs) ∧ P b := ⟨a, rfl, ⟨xs, SqL.of h⟩, q⟩
theorem strI_mk {z : Str} {P : Str → Prop} (q : P z) : ∃ x, V.str z = .str x ∧ P x := ⟨z, rfl, q⟩
theorem st_yes {QB : Bool → Hp → Prop} (h : QB true H) : tYes σ H QB := h
end
/-- the next turn -/
def NX (I : Nat → L2.St → Cells → Hp → Prop) (i : Nat) : L2.St → Hp → Prop := fun σ' H' => ∃ R' D', HI H' R' D' ∧ I i σ' R' D'
section
variable {J : It} {n : Nat} {G : Hp → Prop} {Y : Nat → Hp → V → Hp → Prop} {g : TG} {tb : TS} {D : Ends} {σ : L2.St} {H D0 : Hp} {R0 : Cells} {tt : TT} {te : TE} {vs : List Nat} {Q : VK}
theorem for_hi (w : Walk J n G Y) (I : Nat → L2.St → Cells → Hp → Prop) (hi : HI H R0 D0) (h0 : I 0 σ R0 D0) (hG : ∀ i σ R Dd H, i ≤ n → HI H R Dd → I i σ R Dd → G H)
    (hs : ∀ i x σ R Dd H H', i < n → HI H R Dd → I i σ R Dd → Y i H x H' → g x σ H' fun σ2 H2 => tb { D with nx := NX I (i + 1), ct := NX I (i + 1), bk := D.nx } σ2 H2) (hd : ∀ σ R Dd H, HI H R Dd → I n σ R Dd → D.nx σ H) : ForK J g tb D σ H :=
  for_it w (NX I) ⟨R0, D0, hi, h0⟩ (fun i σ H hn ⟨R, Dd, a, b⟩ => hG i σ R Dd H hn a b) (fun i x σ H H' hn ⟨R, Dd, a, b⟩ y => hs i x σ R Dd H H' hn a b y) (fun σ H ⟨R, Dd, a, b⟩ => hd σ R Dd H a b)
/-- over a range -/
theorem for_rng {lo : Int} (I : Nat → L2.St → Cells → Hp → Prop) (hi : HI H R0 D0) (h0 : I 0 σ R0 D0)
    (hs : ∀ (i : Nat) σ R Dd H, i < n → HI H R Dd → I i σ R Dd → g (.int (lo + i)) σ H fun σ2 H2 => tb { D with nx := NX I (i + 1), ct := NX I (i + 1), bk := D.nx } σ2 H2) (hd : ∀ σ R Dd H, HI H R Dd → I n σ R Dd → D.nx σ H) : ForK (Itr lo n) g tb D σ H :=
  for_hi walk_range I hi h0 (fun _ _ _ _ _ _ _ _ => trivial) (fun i x σ R Dd H H' hn a b y => by
    obtain ⟨rfl, rfl⟩ := y
    exact hs i σ R Dd H' hn a b) hd
/-- over a list that is data -/
theorem for_lst {K : PySem.W.Frag} {a : Addr} {xs : List V} (I : Nat → L2.St → Cells → Hp → Prop) (hi : HI H R0 D0) (h0 : I 0 σ R0 D0) (hl : ∀ i σ R Dd, I i σ R Dd → Dd a = some (.lst xs))
    (hs : ∀ (i : Nat) x σ R Dd H, xs[i]? = some x → HI H R Dd → I i σ R Dd → g x σ H fun σ2 H2 => tb { D with nx := NX I (i + 1), ct := NX I (i + 1), bk := D.nx } σ2 H2) (hd : ∀ σ R Dd H, HI H R Dd → I xs.length σ R Dd → D.nx σ H) : ForK (Itl K a) g tb D σ H :=
  for_hi walk_list I hi h0 (fun i σ R Dd H _ q p => SqL.of (q.dat (hl i σ R Dd p))) (fun i x σ R Dd H H' hn a b y => by
    obtain ⟨rfl, y⟩ := y
    exact hs i x σ R Dd H' y a b) hd
/-- a comprehension's word: its list is the first cell -/
def PW' (L : Addr) (I : Nat → List V → Cells → Hp → Prop) (i : Nat) (H : Hp) : Prop := ∃ acc R Dd, HI H ((L, .lst acc) :: R) Dd ∧ I i acc R Dd ∧ acc.length ≤ i
/-- a turn's end: one more -/
def LE (L : Addr) (I : Nat → List V → Cells → Hp → Prop) (i : Nat) : VK := fun y H => ∃ acc, H L = some (.lst acc) ∧ acc.length < sizeLine ∧ PW' L I i (upd H L (.lst (acc ++ [y])))
theorem le_mk {L : Addr} {I : Nat → List V → Cells → Hp → Prop} {i : Nat} {acc : List V} {R : Cells} {Dd H : Hp} {y : V} (h : HI H ((L, .lst acc) :: R) Dd) (q : I (i + 1) (acc ++ [y]) R Dd) (hl : acc.length ≤ i) (hn : i < 1000000) : LE L I (i + 1) y H :=
  ⟨acc, h.get (List.mem_cons_self ..), by rw [sizeLine_eq]; omega, acc ++ [y], R, Dd, h.set, q, by rw [List.length_append]; simpa using hl⟩
theorem lx_mk {L : Addr} {I : Nat → List V → Cells → Hp → Prop} {i : Nat} {acc : List V} {R : Cells} {Dd H : Hp} (h : HI H ((L, .lst acc) :: R) Dd) (q : I (i + 1) acc R Dd) (hl : acc.length ≤ i) : PW' L I (i + 1) H := ⟨acc, R, Dd, h, q, by omega⟩
theorem lc_hi (w : Walk J n G Y) (I : Nat → List V → Cells → Hp → Prop) (hi : HI H R0 D0) (h0 : I 0 [] R0 D0) (hG : ∀ i acc R Dd H, i ≤ n → HI H R Dd → I i acc R Dd → G H)
    (hs : ∀ L i acc x R Dd H H', i < n → HI H ((L, .lst acc) :: R) Dd → I i acc R Dd → acc.length ≤ i → Y i H x H' → g x (wipe σ vs) H' fun σ2 H2 => wipe σ2 vs = wipe σ vs ∧ tt σ2 H2 fun b H3 => if b = true then te σ2 H3 (LE L I (i + 1)) else PW' L I (i + 1) H3)
    (hd : ∀ L acc R Dd H, HI H ((L, .lst acc) :: R) Dd → I n acc R Dd → acc.length ≤ n → Q (.ref L) H) : LcK J g tt te vs σ H Q := fun L hL =>
  lc_it w (PW' L I) ⟨[], R0, D0, hi.new hL, h0, Nat.le_refl _⟩ (fun i H' hn ⟨acc, R, Dd, a, b, _⟩ => hG i acc R Dd H' hn a.drop b)
    (fun i x H1 H1' hn1 ⟨acc, R, Dd, a, b, c⟩ y => hs L i acc x R Dd H1 H1' hn1 a b c y) (fun H' ⟨acc, R, Dd, a, b, c⟩ => hd L acc R Dd H' a b c)
theorem lc_rng {lo : Int} (I : Nat → List V → Cells → Hp → Prop) (hi : HI H R0 D0) (h0 : I 0 [] R0 D0)
    (hs : ∀ L i acc R Dd H, i < n → HI H ((L, .lst acc) :: R) Dd → I i acc R Dd → acc.length ≤ i → g (.int (lo + (i : Nat))) (wipe σ vs) H fun σ2 H2 => wipe σ2 vs = wipe σ vs ∧ tt σ2 H2 fun b H3 => if b = true then te σ2 H3 (LE L I (i + 1)) else PW' L I (i + 1) H3)
    (hd : ∀ L acc R Dd H, HI H ((L, .lst acc) :: R) Dd → I n acc R Dd → acc.length ≤ n → Q (.ref L) H) : LcK (Itr lo n) g tt te vs σ H Q :=
  lc_hi walk_range I hi h0 (fun _ _ _ _ _ _ _ _ => trivial) (fun L i acc x R Dd H H' hn a b c y => by
    obtain ⟨rfl, rfl⟩ := y
    exact hs L i acc R Dd H' hn a b c) hd
theorem lc_lst {K : PySem.W.Frag} {a : Addr} {xs : List V} (I : Nat → List V → Cells → Hp → Prop) (hi : HI H R0 D0) (h0 : I 0 [] R0 D0) (hl : ∀ i acc R Dd, I i acc R Dd → Dd a = some (.lst xs))
    (hs : ∀ L i acc x R Dd H, xs[i]? = some x → HI H ((L, .lst acc) :: R) Dd → I i acc R Dd → acc.length ≤ i → g x (wipe σ vs) H fun σ2 H2 => wipe σ2 vs = wipe σ vs ∧ tt σ2 H2 fun b H3 => if b = true then te σ2 H3 (LE L I (i + 1)) else PW' L I (i + 1) H3)
    (hd : ∀ L acc R Dd H, HI H ((L, .lst acc) :: R) Dd → I xs.length acc R Dd → acc.length ≤ xs.length → Q (.ref L) H) : LcK (Itl K a) g tt te vs σ H Q :=
  lc_hi walk_list I hi h0 (fun i acc R Dd H _ q p => SqL.of (q.dat (hl i acc R Dd p))) (fun L i acc x R Dd H H' hn a b c y => by
    obtain ⟨rfl, y⟩ := y
    exact hs L i acc x R Dd H' y a b c) hd
theorem lc_str {z : Str} (I : Nat → List V → Cells → Hp → Prop) (hi : HI H R0 D0) (h0 : I 0 [] R0 D0)
    (hs : ∀ L i acc c R Dd H, z.cps[i]? = some c → HI H ((L, .lst acc) :: R) Dd → I i acc R Dd → acc.length ≤ i → g (.str ⟨#[c]⟩) (wipe σ vs) H fun σ2 H2 => wipe σ2 vs = wipe σ vs ∧ tt σ2 H2 fun b H3 => if b = true then te σ2 H3 (LE L I (i + 1)) else PW' L I (i + 1) H3)
    (hd : ∀ L acc R Dd H, HI H ((L, .lst acc) :: R) Dd → I z.cps.size acc R Dd → acc.length ≤ z.cps.size → Q (.ref L) H) : LcK (Its z) g tt te vs σ H Q :=
  lc_hi walk_str I hi h0 (fun _ _ _ _ _ _ _ _ => trivial) (fun L i acc x R Dd H H' hn a b c y => by
    obtain ⟨rfl, d, y, rfl⟩ := y
    exact hs L i acc d R Dd H' y a b c) hd
end
end Wk
set_option maxRecDepth 100000
set_option maxHeartbeats 4000000
namespace Wk
open PySem PySem.Spec PyProof.Rows L2
/-- the base class at B -/
structure ExB (K : PySem.W.Frag) (mg : Str → Option Value) (n : Str) (B : Addr) : Prop where
  g : mg n = some (.ref B)
  rd : PySem.W.readsIn K B (.type "type") = true
  sp : PySem.W.specialIn K (.ref B) "__getattribute__" = some (some (.builtin "type.__getattribute__"))
  vV : PySem.W.findCls K (.ref B) (.type "type") "__init__" = some (.val (.builtin "ValueError.__init__"))
/-- an own exception class at C, its __init__ at fI -/
structure ExK (K : PySem.W.Frag) (mg : Str → Option Value) (n : Str) (C fI : Addr) : Prop where
  g : mg n = some (.ref C)
  T : OexC K C
  E : ExcC K C
  iC : PySem.W.findIn K (.ref C) "__init__" = some (some (.ref fI))
  tI : PySem.W.typeIn K (.ref fI) = some (.type "function")
  no : PySem.W.findIn K (.ref C) "found" = some none
def isVal (o : Option PySem.W.CFound) (n : String) : Bool := match o with
  | some (.val (.builtin x)) => x == n
  | _ => false
theorem isVal_ok {o : Option PySem.W.CFound} {n : String} (h : isVal o n = true) : o = some (.val (.builtin n)) := by
  unfold isVal at h
  split at h
  · rw [beq_iff_eq.mp h]
  · cases h
def exbB (n : Str) (K : PySem.W.Frag) : Bool := PySem.W.readsIn K (He.ga K n) (.type "type") && (He.eqO (PySem.W.specialIn K (.ref (He.ga K n)) "__getattribute__") (some (some (.builtin "type.__getattribute__"))) && isVal (PySem.W.findCls K (.ref (He.ga K n)) (.type "type") "__init__") "ValueError.__init__")
def oexB (K : PySem.W.Frag) (C : Addr) : Bool := match K.lookup C with
  | some ⟨.type "type", _, .cls cd, sl⟩ => (match cd.mro, sl.toList with
    | .ref C' :: bm, [_, _, _, _, some (.builtin n), _] => C' == C && (n == "ValueError.__new__" && (!cd.hasDel && (cd.hasDict && PySem.HandSPX.refsVE bm)))
    | _, _ => false)
  | _ => false
def eqB (a b : Option Bool) : Bool := decide (a = b)
def eqV (a b : Option Value) : Bool := decide (a = b)
def exkB (n : Str) (K : PySem.W.Frag) : Bool :=
  let C := He.ga K n
  oexB K C && (He.eqO (PySem.W.findIn K (.ref C) "__setattr__") (some (some (.builtin "object.__setattr__"))) && (eqB (PySem.W.subIn K (.ref C) (.type "BaseException")) (some true) && (eqV (PySem.W.typeIn K (.ref C)) (some (.type "type")) && (PySem.W.keepIn K (.ref C) &&
  (He.eqO (PySem.W.findIn K (.ref C) "__getattribute__") (some (some (.builtin "BaseException.__getattribute__"))) && (He.eqO (PySem.W.findIn K (.ref C) "__getattr__") (some none) && (PySem.W.hasDictIn K C &&
  (He.eqO (PySem.W.findIn K (.ref C) "__class__") (some (some (.builtin "object.__class__"))) && (He.eqO (PySem.W.specialIn K (.builtin "object.__class__") "__get__") (some (some (.builtin "getset_descriptor.__get__"))) && (eqB (PySem.W.takesIn K (.builtin "object.__class__")) (some true) && (eqB (PySem.W.mroIn K C (.type "object")) (some true) &&
  (He.eqO (PySem.W.findIn K (.ref C) "__init__") (some (some (.ref (He.ma K C "__init__")))) && (eqV (PySem.W.typeIn K (.ref (He.ma K C "__init__"))) (some (.type "function")) && He.eqO (PySem.W.findIn K (.ref C) "found") (some none))))))))))))))
section
variable {K : PySem.W.Frag} {h : Heap} {mg : Str → Option Value}
theorem oexB_ok {C : Addr} (q : oexB K C = true) : ∃ nm q N bs bm sn sub ab col dd k0 k1 k2 k3 k5, K.lookup C = some (excClassObj nm q C N bs bm true sn sub ab col dd k0 k1 k2 k3 k5 "ValueError.__new__") ∧ PySem.HandSPX.refsVE bm = true := by
  unfold oexB at q
  split at q
  · rename_i dd cd sl ho
    split at q
    · rename_i C' bm k0 k1 k2 k3 n k5 hm hs
      simp only [Bool.and_eq_true, beq_iff_eq, Bool.not_eq_true'] at q
      obtain ⟨rfl, rfl, hdel, hd, ht⟩ := q
      obtain ⟨nm, bs, mro, ns, qn, hdc, sn, sub, ab, col, del⟩ := cd
      dsimp only at hm hdel hd
      subst hm hdel hd
      have hsl : sl = #[k0, k1, k2, k3, some (.builtin "ValueError.__new__"), k5] := by
        obtain ⟨l⟩ := sl
        simp only at hs
        rw [hs]
      subst hsl
      exact ⟨nm, qn, ns, bs, bm, sn, sub, ab, col, dd, k0, k1, k2, k3, k5, ho, ht⟩
    · cases q
  · cases q
theorem exb_ok (X : K.In h) (G : h.Ns mainGlobals mg) {n : Str} (c1 : (He.Fa.glo n).ok K = true) (c : exbB n K = true) : ExB K mg n (He.ga K n) := by
  obtain ⟨a, c⟩ := He.ba c
  obtain ⟨b, d⟩ := He.ba c
  exact ⟨He.glo_ok X G c1, a, He.eqO_ok b, isVal_ok d⟩
theorem exk_ok (X : K.In h) (G : h.Ns mainGlobals mg) {n : Str} (c1 : (He.Fa.glo n).ok K = true) (c : exkB n K = true) : ExK K mg n (He.ga K n) (He.ma K (He.ga K n) "__init__") := by
  obtain ⟨a1, c⟩ := He.ba c
  obtain ⟨a2, c⟩ := He.ba c
  obtain ⟨a3, c⟩ := He.ba c
  obtain ⟨a4, c⟩ := He.ba c
  obtain ⟨a5, c⟩ := He.ba c
  obtain ⟨a6, c⟩ := He.ba c
  obtain ⟨a7, c⟩ := He.ba c
  obtain ⟨a8, c⟩ := He.ba c
  obtain ⟨a9, c⟩ := He.ba c
  obtain ⟨a10, c⟩ := He.ba c
  obtain ⟨a11, c⟩ := He.ba c
  obtain ⟨a12, c⟩ := He.ba c
  obtain ⟨a13, c⟩ := He.ba c
  obtain ⟨a14, a15⟩ := He.ba c
  exact ⟨He.glo_ok X G c1, ⟨oexB_ok a1, He.eqO_ok a2, of_decide_eq_true a3, of_decide_eq_true a4, a5⟩, ⟨He.eqO_ok a6, He.eqO_ok a7, of_decide_eq_true a3, a8, He.eqO_ok a9, He.eqO_ok a10, of_decide_eq_true a11, of_decide_eq_true a12⟩, He.eqO_ok a13, of_decide_eq_true a14, He.eqO_ok a15⟩
end
section
variable {X : Cx} {o e : Expr} {es : List Expr} {to te : TE} {ta : TA} {f : Str} {p p' p1 p2 pos : Pos} {C fI B : Addr} {n x : Str}
/-- B.__init__(self, ..), B an own class without an __init__ of its own -/
theorem pe_binit {pl : Sem Bool} (T : ExB X.K X.mg n B) (hg : Gl X n) (ha : PA X (e :: es) ta) (hdb : (n == ("__debug__" : Str)) = false := by decide)
    (hc : eval (.Call (.Attribute (.Name n p1) "__init__" p2) (e :: es) [] pos) X.env = (do
      let ov ← eval (.Name n p1) X.env
      standAt p2.atName
      let (f, first) ← holding [ov] (getMethod ov "__init__" pl)
      callWith pos f first (backTo pos (starEach (e :: es) X.env)) (backToKw pos (keywordEach [] X.env))) := by rfl)
    (he : starEach (e :: es) X.env = (false, eval e X.env) :: starEach es X.env := by rfl) (hpl : (backTo pos (starEach es X.env)).any (·.1) = false := by rfl) :
    PE X (.Call (.Attribute (.Name n p1) "__init__" p2) (e :: es) [] pos) (tVeI X.K ta) := by
  refine ⟨fun pins s σ H Q I h => ?_⟩
  refine PySem.W.methodCall_KW (ld_glob I hg T.g ?_ hdb) hc
  refine PySem.W.method_cls I.kIn T.sp ?_
  refine PySem.W.cls_value I.kIn T.rd T.vV (by decide +kernel) ?_
  show wpAny _ _ (callWith pos (Value.builtin "ValueError.__init__") [] (backTo pos (starEach (e :: es) X.env)) []) _ _ _
  refine PyProof.Rows.callWith_method1 (thn (ha.run pos pins _ σ H _ (I.tok _) h) fun us s1 ⟨vs, H1, I1, r1, a, C, ws, ev, hl, T, ea, q⟩ => ?_) he hpl
  subst ev
  cases r1 with
  | @cons _ u0 _ ur ra rw' =>
    obtain rfl : u0 = Value.ref a := ra
    have hlen : ur.length ≤ sizeLine := by
      rw [← Paired.length rw', sizeLine_eq]
      omega
    exact oinit_ok T I1 ea hlen fun s' J => ⟨.non, H1, J, rfl, q⟩
end
/-- __init__(self, found) -/
def spInit (K : PySem.W.Frag) (C : Addr) : Sp := fun vs H Q _ => ∃ (a : Addr) (v : V), vs = [.ref a, v] ∧ OexC K C ∧ PySem.W.findIn K (.ref C) "found" = some none ∧ H a = some (exo a C none) ∧
  ∀ d, H d = none → d ≠ a → Q .non (upd (upd H d (exd d [(("found" : Str), v)])) a (exo a C (some d)))
theorem spInit_len {K : PySem.W.Frag} {C : Addr} {vs : List V} {H : Hp} {Q : VK} {E : XK} (h : spInit K C vs H Q E) : vs.length = (["self", "found"] : List Str).length := by
  obtain ⟨a, v, rfl, _⟩ := h
  rfl
theorem init_plain {K : PySem.W.Frag} {C : Addr} {z : Str} {vs : List V} {H : Hp} {Q : VK} {E : XK} (h : spInit K C vs H Q E) :
    tSeq (tDrop (tVeI K (tCons (tVar 0) (tCons (tC (.str z)) tNil)))) (tOst K "found" (tVar 0) (tVar 1)) { nx := fun _ H' => Q .non H', rt := Q } (start ["self", "found"] vs) H := by
  obtain ⟨a, v, rfl, T, no, ea, k⟩ := h
  exact ⟨_, rfl, a, C, [.str z], rfl, (show 1 ≤ 1000 by decide), T, ea, ⟨_, rfl, _, rfl, a, C, rfl, T, no, .inl ⟨ea, k⟩⟩⟩
/-- C(e) -/
def tMkE (C : Addr) (ta : TA) : TE := fun σ H Q => ta σ H fun vs H1 => ∃ v, vs = [v] ∧ ∀ a d, H1 a = none → H1 d = none → d ≠ a → Q (.ref a) (upd (upd H1 d (exd d [(("found" : Str), v)])) a (exo a C (some d)))
theorem upd_swap {H : Hp} {a b : Addr} {o u : HO} (h : a ≠ b) : upd (upd H a o) b u = upd (upd H b u) a o := by
  funext c
  by_cases h1 : c = a
  · subst h1
    rw [upd_ne h, upd_same, upd_same]
  · by_cases h2 : c = b
    · subst h2
      rw [upd_same, upd_ne h1, upd_same]
    · rw [upd_ne h2, upd_ne h1, upd_ne h1, upd_ne h2]
theorem upd_end {H : Hp} {a d : Addr} {o o' u : HO} (h : d ≠ a) : upd (upd (upd H a o) d u) a o' = upd (upd H d u) a o' := by
  rw [upd_swap h.symm, upd_upd]
/-- what init leaves, seen from the maker -/
theorem init_use {K : PySem.W.Frag} {mg : Str → Option Value} {n : Str} {C fI a : Addr} {v : V} {H : Hp} {Q : VK} {E : XK} (T : ExK K mg n C fI) (h : ∀ d, H d = none → d ≠ a → Q .non (upd (upd H d (exd d [(("found" : Str), v)])) a (exo a C (some d)))) :
    spInit K C [.ref a, v] (upd H a (exo a C none)) Q E :=
  ⟨a, v, rfl, T.T, T.no, upd_same, fun d hd ne => by
    rw [upd_end ne]
    rw [upd_ne ne] at hd
    exact h d hd ne⟩
section
variable {X : Cx} {e : Expr} {te : TE} {ta : TA} {p pos : Pos} {C fI : Addr} {n : Str} {k : Nat}
/-- the call itself -/
theorem run_exc {pins : List (Addr × Obj)} {σ : L2.St} {H1 : Hp} {s1 : Shared} {v : V} {u : Value} {Q : Value → Shared → Prop} (T : ExK X.K X.mg n C fI) (F1 : FnOk X.prog X.w X.K X.mg X.base CX0 k fI (fdOf X.K fI) ["self", "found"] (spInit X.K C)) (hb : Binds X.K (fdOf X.K fI) ["self", "found"] []) (hr : Room (k + 1) X.A)
    (I1 : Inv X pins σ H1 s1) (rv : RelV v u) (q : ∀ (a d : Addr) (hp2 h2 : Heap) (g2 : Array GenState) (d2 : Drawn) (t2 : Nat) (os2 : OsState), H1 a = none → H1 d = none → d ≠ a → s1.heap.objs.size ≤ a → (∀ b o, s1.heap.get? b = some o → hp2.get? b = some o) →
      Un (frs X.stack) [] (upd H1 a (exo a C none)) (upd (upd H1 d (exd d [(("found" : Str), v)])) a (exo a C (some d))) hp2 h2 → HOk X.prog X.w (upd (upd H1 d (exd d [(("found" : Str), v)])) a (exo a C (some d))) h2 → os2 = s1.os → AllBare g2 →
      Inv X pins σ (upd (upd H1 d (exd d [(("found" : Str), v)])) a (exo a C (some d))) ⟨h2, g2, d2, t2, os2⟩ → Q (.ref a) ⟨h2, g2, d2, t2, os2⟩) :
    wpAny (model X.prog X.w) X.A (call (.ref C) [u]) Q X.xe s1 := by
  obtain ⟨nm, qq, N, bs, bm, sn, sub, ab, col, dd, k0, k1, k2, k3, k5, hC, hbm⟩ := T.T.cls
  obtain ⟨hp, g, dr, tk, os⟩ := s1
  have hsz : hp.objs.size ≤ hp.objs.size + 1 := Nat.le_succ _
  have hn : H1 (hp.objs.size + 1) = none := I1.hok.fresh hsz
  have kk : ∀ b o, hp.get? b = some o → ((hp.push (PySem.W.kdv_tup [u])).push (PySem.HandSPX.excO C hp.objs.size)).get? b = some o := fun b o e => Heap.get?_push_of_some _ (Heap.get?_push_of_some _ e)
  have hget : ((hp.push (PySem.W.kdv_tup [u])).push (PySem.HandSPX.excO C hp.objs.size)).get? (hp.objs.size + 1) = some (PySem.HandSPX.excO C hp.objs.size) := by heap_get
  have I2 : Inv X pins σ (upd H1 (hp.objs.size + 1) (exo (hp.objs.size + 1) C none)) ⟨(hp.push (PySem.W.kdv_tup [u])).push (PySem.HandSPX.excO C hp.objs.size), g, dr, tk, os⟩ :=
    I1.laid (t' := tk) (a := hp.objs.size + 1) (o := exo (hp.objs.size + 1) C none) (h' := (hp.push (PySem.W.kdv_tup [u])).push (PySem.HandSPX.excO C hp.objs.size)) kk hsz (exo_ok hget)
  have r2 : Vals [V.ref (hp.objs.size + 1), v] [Value.ref (hp.objs.size + 1), u] := .cons rfl (.cons rv .nil)
  have hus : [u].length ≤ sizeLine := by
    rw [sizeLine_eq]
    exact (by decide : 1 ≤ 16777216)
  have sp1 : spInit X.K C [.ref (hp.objs.size + 1), v] (upd H1 (hp.objs.size + 1) (exo (hp.objs.size + 1) C none)) (fun w H2 => w = .non ∧ ∃ d, H1 d = none ∧ d ≠ hp.objs.size + 1 ∧ H2 = upd (upd H1 d (exd d [(("found" : Str), v)])) (hp.objs.size + 1) (exo (hp.objs.size + 1) C (some d))) (fun _ _ _ => False) :=
    init_use T fun d hd ne => ⟨rfl, d, hd, ne, rfl⟩
  refine wpAny_call (PySem.HandSPX.call_own F.excBase_ValueError (fun Y => PySem.HandSPX.refsVE_contains Y bm hbm) (I1.kIn _ _ hC) (PySem.W.looks_findIn I1.kIn T.iC) (fun self => PySem.W.bind_fn I1.kIn self T.tI) hus
    (codeAny_mono (F1.run _ X.stack _ _ ⟨[Value.ref (hp.objs.size + 1), u], []⟩ [Value.ref (hp.objs.size + 1), u] _ _ (fun _ _ _ => False) (hr.make C [u] []) (I2.env0.make C [u] []) (hb _ [Value.ref (hp.objs.size + 1), u] I2.kIn rfl) r2 sp1) fun r s' hq' => ?_))
  cases r with
  | error er => exact hq'.elim
  | ok fl =>
    cases fl with
    | ret z =>
      have hq0 := hq'
      obtain ⟨w, H2, os2, bare2, un2, hok2, rw', ew, d, hd1, ne, e2⟩ := hq'
      subst ew e2
      obtain ⟨w', H3, J, rw2, ew2, d', hd', ne', e3⟩ := I2.after hq0
      subst ew2
      obtain ⟨h2, g2, d2, t2, os'⟩ := s'
      refine ⟨rw', q _ d _ h2 g2 d2 t2 os' hn hd1 ne hsz kk un2 hok2 os2 bare2 ?_⟩
      exact I2.call' (ch := []) os2 un2 hok2 bare2 (fun b z => absurd z (by simp))
    | next => exact False.elim hq'
    | brk => exact False.elim hq'
    | cont => exact False.elim hq'
/-- C(e), to be raised -/
def tMkX (C : Addr) (ta : TA) : L2.St → Hp → XK → Prop := fun σ H Q => ta σ H fun vs H1 => ∃ v, vs = [v] ∧ ∀ d, H1 d = none → Q (.ref C) (some d) (upd H1 d (.xd [(("found" : Str), v)]))
theorem pmk_X (T : ExK X.K X.mg n C fI) (F1 : FnOk X.prog X.w X.K X.mg X.base CX0 k fI (fdOf X.K fI) ["self", "found"] (spInit X.K C)) (hb : Binds X.K (fdOf X.K fI) ["self", "found"] []) (hr : Room (k + 1) X.A) (hg : Gl X n) (ha : PA X [e] ta)
    (hdb : (n == ("__debug__" : Str)) = false := by decide) (he : starEach [e] X.env = (false, eval e X.env) :: starEach [] X.env := by rfl) (hpl : (backTo pos (starEach [] X.env)).any (·.1) = false := by rfl) :
    PMk X (.Call (.Name n p) [e] [] pos) (tMkX C ta) := by
  intro pins s σ H Q I h
  refine wpAny_Call_Name_kw (ld_glob I hg T.g ?_ hdb)
  refine PySem.W.callWith_K (h₀ := X.base) I.ok.mod.kin T.T.kC (thn (ha.run pos pins s σ H _ I h) fun us s1 ⟨vs, H1, I1, r1, v, ev, q1⟩ => ⟨I1.kIn, ?_⟩) he hpl
  subst ev
  cases r1 with
  | @cons _ u _ us rv rn =>
    cases rn
    show wpAny _ _ (call (.ref C) [u]) _ _ _
    refine run_exc T F1 hb hr I1 rv fun a d hp2 h2 g2 d2 t2 os2 ha hd ne hsz kk un hok eo hb2 J => ?_
    obtain ⟨hp, g, dr, tk, os⟩ := s1
    refine mk_end (fs := [(("found" : Str), v)]) (hp2 := hp2) (os1 := os) (raises_own T.T.exC T.T.tyC) I1 hsz kk un hok eo hb2 upd_same (by rw [upd_ne ne, upd_same]) hd ?_
    have e1 : upd (del (upd (upd H1 d (exd d [(("found" : Str), v)])) a (exo a C (some d))) a) d (.xd [(("found" : Str), v)]) = upd H1 d (.xd [(("found" : Str), v)]) := by
      funext b
      by_cases h1 : b = d
      · rw [h1, upd_same, upd_same]
      · rw [upd_ne h1, upd_ne h1]
        by_cases h2 : b = a
        · rw [h2, del_same, ha]
        · rw [del_ne h2, upd_ne h2, upd_ne h1]
    rw [e1]
    exact q1 d hd
def tRaiseX (C : Addr) (W : L2.WX) (ta : TA) : TS := fun _ σ H => tMkX C ta σ H fun cls d H' => W cls d σ H'
theorem ps_raiseX {W : L2.WX} {pos2 : Pos} (hc : X.calm = true) (tk : Takes X W) (T : ExK X.K X.mg n C fI) (F1 : FnOk X.prog X.w X.K X.mg X.base CX0 k fI (fdOf X.K fI) ["self", "found"] (spInit X.K C)) (hb : Binds X.K (fdOf X.K fI) ["self", "found"] []) (hr : Room (k + 1) X.A) (hg : Gl X n) (ha : PA X [e] ta)
    (hdb : (n == ("__debug__" : Str)) = false := by decide) (he : starEach [e] X.env = (false, eval e X.env) :: starEach [] X.env := by rfl) (hpl : (backTo pos (starEach [] X.env)).any (·.1) = false := by rfl) :
    PS X (.Raise (some (.Call (.Name n p) [e] [] pos)) none pos2) (tRaiseX C W ta) := ps_raise hc tk (pmk_X T F1 hb hr hg ha hdb he hpl)
end
/-- the same over the heap in two parts -/
theorem mkE_use {H D : Hp} {R : List (Addr × HO)} {v : V} {C : Addr} {Q : VK} (h : HI H R D) (k : ∀ a d H' D', HI H' R D' → Ex D D' → D' a = some (exo a C (some d)) → D' d = some (exd d [(("found" : Str), v)]) → Q (.ref a) H') :
    ∃ w, [v] = [w] ∧ ∀ a d, H a = none → H d = none → d ≠ a → Q (.ref a) (upd (upd H d (exd d [(("found" : Str), w)])) a (exo a C (some d))) :=
  ⟨v, rfl, fun a d ha hd ne => by
    have h1 := h.newD (o := exd d [(("found" : Str), v)]) hd
    have ha1 : upd H d (exd d [(("found" : Str), v)]) a = none := by rw [upd_ne ne.symm]; exact ha
    have h2 := h1.newD (o := exo a C (some d)) ha1
    exact k a d _ _ h2 ((Ex.new (h.free hd)).trans (Ex.new (h1.free ha1))) upd_same (by rw [upd_ne ne, upd_same])⟩
theorem mkX_use {H D : Hp} {R : List (Addr × HO)} {v : V} {C : Addr} {E : XK} (h : HI H R D) (k : ∀ d H' D', HI H' R D' → Ex D D' → D' d = some (.xd [(("found" : Str), v)]) → E (.ref C) (some d) H') :
    ∃ w, [v] = [w] ∧ ∀ d, H d = none → E (.ref C) (some d) (upd H d (.xd [(("found" : Str), w)])) :=
  ⟨v, rfl, fun d hd => k d _ _ (h.newD hd) (Ex.new (h.free hd)) upd_same⟩
end Wk
set_option maxRecDepth 100000
set_option maxHeartbeats 4000000
namespace Wk
open PySem PySem.Spec PyProof.Rows L2
/-- at e: an exception of the class at C, its args at t1 -/
def exq (e C : Addr) (d : Option Addr) (t1 : Addr) : HO := .ext fun h => h.get? e = some ({ cls := .ref C, dict := d, data := .fields #[.ref t1, .none, .none, .none, .bool false, .none] } : Obj)
theorem exq_at {P : Program} {w : World} {H : Hp} {h : Heap} {e C t1 : Addr} {d : Option Addr} (hok : HOk P w H h) (he : H e = some (exq e C d t1)) : h.get? e = some ({ cls := .ref C, dict := d, data := .fields #[.ref t1, .none, .none, .none, .bool false, .none] } : Obj) := by
  have x : ObjOk P w H h e (.ext fun h => h.get? e = some ({ cls := .ref C, dict := d, data := .fields #[.ref t1, .none, .none, .none, .bool false, .none] } : Obj)) := hok e _ he
  exact x.1
/-- what is made: the args, the dict, the exception -/
def mkd (a C d t1 : Addr) (z : Str) (v : V) (H : Hp) : Hp := upd (upd (upd H t1 (.tup [.str z])) d (exd d [(("found" : Str), v)])) a (exq a C (some d) t1)
section
variable {X : Cx} {e : Expr} {te : TE} {ta : TA} {p pos : Pos} {C fI : Addr} {n z : Str} {k : Nat}
/-- C(e) -/
def tMkQ (C : Addr) (z : Str) (ta : TA) : TE := fun σ H Q => ta σ H fun vs H1 => ∃ v, vs = [v] ∧ ∀ a d t1, H1 a = none → H1 d = none → H1 t1 = none → d ≠ a → t1 ≠ a → d ≠ t1 → Q (.ref a) (mkd a C d t1 z v H1)
end
/-- the same over the heap in two parts -/
def MkQP (C : Addr) (z : Str) (vs : List V) (H : Hp) (Q : VK) : Prop := ∃ v, vs = [v] ∧ ∀ a d t1, H a = none → H d = none → H t1 = none → d ≠ a → t1 ≠ a → d ≠ t1 → Q (.ref a) (mkd a C d t1 z v H)
theorem se_mkQ {C : Addr} {z : Str} {ta : TA} {σ : L2.St} {H : Hp} {Q : VK} (h : ta σ H fun vs H1 => MkQP C z vs H1 Q) : tMkQ C z ta σ H Q := h
theorem mkQ_now {H D : Hp} {R : List (Addr × HO)} {v : V} {C : Addr} {z : Str} {Q : VK} (h : HI H R D) (k : ∀ a d t1 H' D', HI H' R D' → Ex D D' → D' a = some (exq a C (some d) t1) → D' d = some (exd d [(("found" : Str), v)]) → D' t1 = some (.tup [.str z]) → Q (.ref a) H') : MkQP C z [v] H Q :=
  ⟨v, rfl, fun a d t1 ha hd ht n1 n2 n3 => by
    have h0 := h.newD (o := .tup [.str z]) ht
    have hd1 : upd H t1 (.tup [.str z]) d = none := by rw [upd_ne n3]; exact hd
    have h1 := h0.newD (o := exd d [(("found" : Str), v)]) hd1
    have ha1 : upd (upd H t1 (.tup [.str z])) d (exd d [(("found" : Str), v)]) a = none := by rw [upd_ne n1.symm, upd_ne n2.symm]; exact ha
    have h2 := h1.newD (o := exq a C (some d) t1) ha1
    exact k a d t1 _ _ h2 ((Ex.new (h.free ht)).trans ((Ex.new (h0.free hd1)).trans (Ex.new (h1.free ha1)))) upd_same (by rw [upd_ne n1, upd_same]) (by rw [upd_ne n2, upd_ne n3.symm, upd_same])⟩
end Wk
set_option maxRecDepth 100000
set_option maxHeartbeats 4000000
namespace Wk
open PySem PySem.Spec PyProof.Rows L2
/-- values picked by places -/
def gI {α : Type} (idx : List Nat) (l : List α) : List α := idx.filterMap fun i => l[i]?
theorem vals_gI {vs : List V} {us : List Value} (r : Vals vs us) : ∀ idx : List Nat, Vals (Wk.gI idx vs) (Wk.gI idx us)
  | [] => .nil
  | i :: idx => by
    unfold Wk.gI
    rw [List.filterMap_cons, List.filterMap_cons]
    have ih := vals_gI r idx
    unfold Wk.gI at ih
    have one : ∀ {vs : List V} {us : List Value} (i : Nat), Vals vs us → (vs[i]? = none ∧ us[i]? = none) ∨ ∃ v u, vs[i]? = some v ∧ us[i]? = some u ∧ RelV v u := by
      intro vs us i r
      induction r generalizing i with
      | nil => exact .inl ⟨rfl, rfl⟩
      | cons a b ih =>
        cases i with
        | zero => exact .inr ⟨_, _, rfl, rfl, a⟩
        | succ j => exact ih j
    rcases one i r with ⟨e1, e2⟩ | ⟨v, u, e1, e2, rr⟩
    · rw [e1, e2]
      exact ih
    · rw [e1, e2]
      exact .cons rr ih
/-- n positional values and keywords ks bind; gV puts all values in the parameters' order -/
def KB (K : PySem.W.Frag) (fd : FuncData) (ps : List Str) (n : Nat) (ks : List Str) (gV : List V → List V → List V) : Prop := ∃ g, KBn K fd ps n ks g gV
section
variable {K : PySem.W.Frag} {x qual : Str} {st : Stmt} {dvs : List V} {f : Addr} {ps ks : List Str} {n : Nat}
/-- no defaults -/
theorem kb_n (F : FD K x qual st [] f) (g : {α : Type} → List α → List α → List α) (hrel : ∀ {vs zs : List V} {us ws : List Value}, Vals vs us → Vals zs ws → Vals (g vs zs) (g us ws))
    (h : ∀ (kV doc pm : Value) (an : Option Addr) (cdv ct : Value) (us ws : List Value), us.length = n → ws.length = ks.length → bindArgs (PySem.W.fnOf x qual (defArgs st) (defBody st) (defScope st) .none kV doc pm an cdv ct) ⟨us, ks.zip ws⟩ = pure (ps.zip (g us ws))) :
    KB K (fdOf K f) ps n ks g := by
  obtain ⟨oc, od, dV, kV, doc, pm, an, cdv, ct, osl, e, lk, hcd, hD, hK⟩ := FunD.ex F
  refine ⟨g, ⟨fun s us ws X l1 l2 => ?_, fun r1 r2 => hrel r1 r2⟩⟩
  rw [e]
  rcases hD with ⟨_, rfl⟩ | ⟨e, _⟩
  · exact .of_eq (h kV doc pm an cdv ct us ws l1 l2)
  · exact absurd rfl e
/-- defaults -/
theorem kb_d (F : FD K x qual st dvs f) (hd : dvs ≠ []) (g : {α : Type} → List α → List α → List α → List α) (hrel : ∀ {vs ds zs : List V} {us its ws : List Value}, Vals vs us → Vals ds its → Vals zs ws → Vals (g vs ds zs) (g us its ws))
    (h : ∀ (T : Addr) (kV doc pm : Value) (an : Option Addr) (cdv ct : Value) (us its ws : List Value), us.length = n → its.length = dvs.length → ws.length = ks.length →
      ∃ k, bindArgs (PySem.W.fnOf x qual (defArgs st) (defBody st) (defScope st) (.ref T) kV doc pm an cdv ct) ⟨us, ks.zip ws⟩ = seqItems? (.ref T) >>= k ∧ k (some its.toArray) = pure (ps.zip (g us its ws))) :
    KB K (fdOf K f) ps n ks (fun vs zs => g vs dvs zs) := by
  obtain ⟨oc, od, dV, kV, doc, pm, an, cdv, ct, osl, e, lk, hcd, hD, hK⟩ := FunD.ex F
  rcases hD with ⟨e, _⟩ | ⟨_, T, o, its, m, rfl, lT, oT, rT⟩
  · exact absurd e hd
  · refine ⟨fun us ws => g us its ws, ⟨fun s us ws X l1 l2 => ?_, fun r1 r2 => hrel r1 rT r2⟩⟩
    obtain ⟨k, e1, e2⟩ := h T kV doc pm an cdv ct us its ws l1 rT.length.symm l2
    refine BindsTo.of_looks fun M => ?_
    rw [e, e1]
    exact looks_items X lT oT (.of_pure e2)
end
def gCallN (n m : Nat) (sp : Sp) (gV : List V → List V → List V) (E : L2.St → XK) (t tk : TA) : TE := fun σ H Q => t σ H fun vs H1 => tk σ H1 fun zs H2 => vs.length = n ∧ zs.length = m ∧ sp (gV vs zs) H2 Q (E σ)
section
variable {X : Cx} {k n : Nat} {f C : Addr} {ps ks : List Str} {sp : Sp} {E : L2.St → XK} {x m : Str} {p pos apos : Pos} {e o : Expr} {es : List Expr} {kws : List Keyword} {t tk ta : TA} {to : TE} {gV : List V → List V → List V}
theorem se_callN {σ : L2.St} {H : Hp} {Q : VK} {n m : Nat} (h : t σ H fun vs H1 => tk σ H1 fun zs H2 => vs.length = n ∧ zs.length = m ∧ sp (gV vs zs) H2 Q (E σ)) : gCallN n m sp gV E t tk σ H Q := h
theorem se_call1 {σ : L2.St} {H : Hp} {Q : VK} {dvs : List V} (h : t σ H fun vs H1 => sp (vs ++ dvs) H1 Q (E σ)) : gCall sp dvs E t σ H Q := h
end
inductive Knd where
  | non | bl | int | str | lst | tup | dict | oth
deriving DecidableEq
def Knd.is : Knd → String → Bool
  | .non, n => n == "NoneType"
  | .bl, n => n == "bool" || n == "int"
  | .int, n => n == "int"
  | .str, n => n == "str"
  | .lst, n => n == "list"
  | .tup, n => n == "tuple"
  | .dict, n => n == "dict"
  | .oth, _ => false
def six : List String := ["int", "bool", "str", "list", "tuple", "dict"]
/-- the class's instances are none of the six -/
def Six (K : PySem.W.Frag) (C : Addr) : Prop := ∀ n ∈ six, PySem.W.kitOne K (.ref C) (.type n) = some false
def sixB (x : Str) (K : PySem.W.Frag) : Bool := six.all fun n => eqB (PySem.W.kitOne K (.ref (He.ga K x)) (.type n)) (some false)
/-- what the class of an own plain class says, so that isinstance may ask its instances -/
structure InsC (K : PySem.W.Frag) (C : Addr) : Prop where
  cl : Cls K C
  ha : PySem.W.findIn K (.ref C) "__class__" = some (some (.builtin "object.__class__"))
  hn : PySem.W.specialIn K (.builtin "object.__class__") "__get__" = some (some (.builtin "getset_descriptor.__get__"))
  ht : PySem.W.takesIn K (.builtin "object.__class__") = some true
  hm : PySem.W.mroIn K C (.type "object") = some true
/-- a value's kind -/
inductive Kn (K : PySem.W.Frag) (H : Hp) : V → Knd → Prop where
  | non : Kn K H .non .non
  | bl (b : Bool) : Kn K H (.bl b) .bl
  | int (i : Int) : Kn K H (.int i) .int
  | str (x : Str) : Kn K H (.str x) .str
  | lst {a : Addr} {xs : List V} (e : H a = some (.lst xs)) : Kn K H (.ref a) .lst
  | frz {a : Addr} {o : Obj} {xs : List V} (e : H a = some (.frz o (.lst xs))) : Kn K H (.ref a) .lst
  | tup {a : Addr} {xs : List V} (e : H a = some (.tup xs)) : Kn K H (.ref a) .tup
  | dict {a : Addr} {kvs : List (Key × V)} (e : H a = some (.dK kvs)) : Kn K H (.ref a) .dict
  | exc {a d C : Addr} {fs : List (Str × V)} (e : H a = some (exo a C (some d))) (ed : H d = some (exd d fs)) (c : ExcC K C) (s : Six K C) : Kn K H (.ref a) .oth
  | excq {a d C t1 : Addr} {fs : List (Str × V)} (e : H a = some (exq a C (some d) t1)) (ed : H d = some (exd d fs)) (c : ExcC K C) (s : Six K C) : Kn K H (.ref a) .oth
  | ins {a C dx : Addr} {fs : List (Str × V)} (e : H a = some (.ins C dx fs)) (c : InsC K C) (s : Six K C) : Kn K H (.ref a) .oth
theorem Kn.mono {K : PySem.W.Frag} {H H' : Hp} {v : V} {k : Knd} (h : Kn K H v k) (x : Ex H H') : Kn K H' v k := by
  cases h with
  | non => exact .non
  | bl b => exact .bl b
  | int i => exact .int i
  | str z => exact .str z
  | lst e => exact .lst (x _ _ e)
  | frz e => exact .frz (x _ _ e)
  | tup e => exact .tup (x _ _ e)
  | dict e => exact .dict (x _ _ e)
  | exc e ed c s => exact .exc (x _ _ e) (x _ _ ed) c s
  | excq e ed c s => exact .excq (x _ _ e) (x _ _ ed) c s
  | ins e c s => exact .ins (x _ _ e) c s
theorem HI.kn {K : PySem.W.Frag} {H D : Hp} {R : List (Addr × HO)} {v : V} {k : Knd} (h : HI H R D) (r : Kn K D v k) : Kn K H v k := r.mono h.sub
abbrev Six0 (a : String) (k : Knd) : Prop := ∀ n ∈ six, kitB a n = some (k.is n)
section
variable {prog : Program} {w : World} {A : Around} {E : Value → Shared → Prop} {s : Shared} {K : PySem.W.Frag} {x D : Addr} {ox od : Obj}
open PySem.W PySem.Calls in
theorem kin_classX {Q : Option Value → Shared → Prop} (C : ExcC K D)
    (X : K.In s.heap) (I : InstAt s.heap x ox D (some od)) (h : Q (some (.ref D)) { s with toks := s.toks + 1 }) : wpAny (model prog w) A (getAttr? (.ref x) "__class__") Q E s := by
  have hga := C.hg
  have hgt := C.hk
  have hsub := C.hs
  have hdct := C.hd
  have ha := C.ha
  have hn := C.hn
  have htk := C.ht
  have hm := C.hm
  have hf : findObj K D (some od) "__class__" = some (.bind (.builtin "getset_descriptor.__get__") (.builtin "object.__class__")) := findObj_data (by obtain ⟨cd, hc, _⟩ := any_some hdct; rw [hc]; rfl) ha hn htk
  obtain ⟨hp, g, d, t, os⟩ := s
  have L0 := I.type (M := model prog w)
  have L1 := looks_findIn (M := model prog w) X hga
  have L2 := looks_findIn (M := model prog w) X hgt
  have L3 := looks_find (M := model prog w) X I hf
  have sub : Looks (model prog w) hp (isInstance (.ref x) (.type "BaseException")) true := L0.andThen (looks_subIn X hsub)
  have hx0 : (false && onTheHeap (Value.builtin "BaseException.__getattribute__")) = false := rfl
  have hx2 : (Value.builtin "BaseException.__getattribute__" == Value.builtin "object.__getattribute__") = false := by decide +kernel
  have hx1 : (onTheHeap (Value.ref D) && Value.builtin "BaseException.__getattribute__" == Value.builtin "object.__getattribute__") = false := by rw [hx2]; rfl
  unfold getAttr? getAttrBy? getAttrBy
  refine wpAny_bind (wpAny_mkText (wpAny_bind (wpAny_attempt (wpAny_holding (wpAny_bind (L0.at (wpAny_bind (L1.at ?_))))))))
  show wpAny _ _ (if (onTheHeap (Value.ref D) && Value.builtin "BaseException.__getattribute__" == Value.builtin "object.__getattribute__") = true then _ else _) _ _ _
  rw [hx1, if_neg Bool.false_ne_true]
  unfold getAttrByItsOwn hookBefore
  refine wpAny_bind ?_
  rw [if_pos (show onTheHeap (Value.ref D) = true from rfl)]
  refine L2.at ?_
  refine wpAny_bind (wpAny_attempt (wpAny_holding ?_))
  unfold callGetattribute
  rw [hx0, if_neg Bool.false_ne_true]
  unfold boundAndCalled
  rw [PySem.F.excAttr_ValueError.ga.bind (.ref x)]
  refine wpAny_bind (wpAny_pure ?_)
  show wpAny _ _ (call (.builtin "BaseException.__getattribute__") [.ref x, .str "__class__" t]) _ _ _
  refine wpAny_call (codeAny_call_builtin PySem.F.excAttr_ValueError.ga.plain PySem.F.entry_bexc_ga ?_)
  refine @check_slot (model prog w) _ _ ⟨hp, g, d, t + 1, os⟩ "BaseException.__getattribute__" "BaseException" "__getattribute__" (.ref x) [.str "__class__" t] [] _ (by decide +kernel) (by decide +kernel) sub (PySem.F.args_bexc_ga (.ref x) (.str "__class__" t)) ?_
  unfold Builtin.«object.__getattribute__»
  refine wpAny_bind (wpAny_of_eq (a := ((Value.ref x : Value), [Value.str "__class__" t])) (by first | rfl | (simp only [slotArgs]; rfl)) ?_)
  refine wpAny_bind (wpAny_pure (wpAny_bind (L0.at (wpAny_bind (L3.at ?_)))))
  show wpAny _ _ (holding [Value.builtin "object.__class__"] (call (.builtin "getset_descriptor.__get__") [.builtin "object.__class__", .ref x, .ref D]) >>= ret) _ _ _
  refine wpAny_bind (wpAny_holding (wpAny_call (class_get (s := ⟨hp, g, d, t + 1, os⟩) (ox := ox) (od := some od) X I hm ?_)))
  refine wpAny_pure ?_
  show wpAny _ _ (handedOut (.ref D)) _ _ _
  rw [handedOut_of (v := .ref D) rfl]
  first
    | exact wpAny_pure (wpAny_pure h)
    | exact wpAny_pure h
    | exact wpAny_pure (wpAny_bind (wpAny_pure (wpAny_pure h)))
open PySem.W PySem.Calls in
theorem kitx_X (C : ExcC K D) : KitX K (.ref x) (.ref D) (fun h => InstAt h x ox D (some od)) where
  ty := fun _ _ _ I => I.type
  it := fun _ _ X _ => by
    obtain ⟨cdD, hcD, _⟩ := any_some C.hd
    unfold clsIn at hcD
    split at hcD
    · rename_i c' d' cd' sl' ho
      intro A' Q' E' s' k q
      unfold isType loadHead
      exact wpAny_bind (wpAny_loadPart (k _ _ (X _ _ ho)) (wpAny_pure q))
    · cases hcD
  ne := fun h tp dd its n sl X htp => by
    obtain ⟨cdD, hcD, _⟩ := any_some C.hd
    refine Bool.eq_false_iff.mpr fun q => ?_
    have e : D = tp := Value.ref.inj (beq_iff_eq.mp q)
    subst e
    unfold clsIn at hcD
    split at hcD
    · rename_i c' d' cd' sl' ho
      have z := (X _ _ ho).symm.trans htp
      cases z
    · cases hcD
  ca := fun X I k => kin_classX C X I k
end
section
variable {X : Cx} {pins : List (Addr × Obj)} {σ : L2.St} {H : Hp} {s : Shared}
/-- the type of such a value, and what the library's rules ask -/
theorem kn_of {v : V} {u : Value} {k : Knd} (I : Inv X pins σ H s) (rx : RelV v u) (h : Kn X.K H v k) :
    ∃ (t : Value) (P : Heap → Prop), PySem.W.KitX X.K u t P ∧ P s.heap ∧ u ≠ .builtin "__main__.__loader__#opaque" ∧ ∀ n ∈ six, PySem.W.kitOne X.K t (.type n) = some (k.is n) := by
  have go : ∀ {t : Value}, TyX X.K H v t → (∀ n ∈ six, PySem.W.kitOne X.K t (.type n) = some (k.is n)) → ∃ (t : Value) (P : Heap → Prop), PySem.W.KitX X.K u t P ∧ P s.heap ∧ u ≠ .builtin "__main__.__loader__#opaque" ∧ ∀ n ∈ six, PySem.W.kitOne X.K t (.type n) = some (k.is n) := fun ty hk => by
    obtain ⟨P, Z, p, hx⟩ := kit_of I rx ty
    exact ⟨_, P, Z, p, hx, hk⟩
  have b : ∀ {a : String}, Six0 a k → ∀ n ∈ six, PySem.W.kitOne X.K (.type a) (.type n) = some (k.is n) := fun h n hn => kit_ty (h n hn)
  cases h with
  | non => exact go (.base .non) (b (by decide +kernel))
  | bl c => exact go (.base (.bl c)) (b (by decide +kernel))
  | int i => exact go (.base (.int i)) (b (by decide +kernel))
  | str z => exact go (.base (.str z)) (b (by decide +kernel))
  | lst e => exact go (.base (.lst e)) (b (by decide +kernel))
  | frz e => exact go (.base (.frz e)) (b (by decide +kernel))
  | tup e => exact go (.base (.tup e)) (b (by decide +kernel))
  | dict e => exact go (.base (.dK e)) (b (by decide +kernel))
  | ins e c s => exact go (.base (.ins e c.cl c.ha c.hn c.ht c.hm)) s
  | @exc a d C fs e ed c s =>
    cases (show u = Value.ref a from rx)
    obtain ⟨t1, ho⟩ := exo_at I.hok e
    obtain ⟨mA, hns, rel⟩ := exd_at I.hok ed
    obtain ⟨oD, _, _, hoD, _, _⟩ := hns.count (within_of rel)
    exact ⟨_, _, kitx_X (od := oD) c, ⟨ho, rfl, rfl, hoD⟩, (fun z => nomatch z), s⟩
  | @excq a d C t1 fs e ed c s =>
    cases (show u = Value.ref a from rx)
    have ho := exq_at I.hok e
    obtain ⟨mA, hns, rel⟩ := exd_at I.hok ed
    obtain ⟨oD, _, _, hoD, _, _⟩ := hns.count (within_of rel)
    exact ⟨_, _, kitx_X (od := oD) c, ⟨ho, rfl, rfl, hoD⟩, (fun z => nomatch z), s⟩
end
/-- isinstance(x, T), T one of the six -/
inductive RIsi (K : PySem.W.Frag) : List V → Hp → VK → Prop
  | ty {x : V} {n : String} {k : Knd} {H : Hp} {Q : VK} : Kn K H x k → n ∈ six → Q (.bl (k.is n)) H → RIsi K [x, .ty n] H Q
/-- isinstance(x, (T, ..)) -/
inductive RIsiT (K : PySem.W.Frag) : List V → Hp → VK → Prop
  | ty {x : V} {p : Addr} {ns : List String} {k : Knd} {H : Hp} {Q : VK} : Kn K H x k → H p = some (.tup (ns.map V.ty)) → (∀ n ∈ ns, n ∈ six) → Q (.bl (ns.any k.is)) H → RIsiT K [x, .ref p] H Q
theorem kitAny_map {K : PySem.W.Frag} {t : Value} {k : Knd} (h : ∀ n ∈ six, PySem.W.kitOne K t (.type n) = some (k.is n)) : ∀ ns : List String, (∀ n ∈ ns, n ∈ six) → PySem.W.kitAny K t (ns.map Value.type) = some (ns.any k.is)
  | [], _ => rfl
  | n :: ns, hn => by
    refine kitAny_cons (h n (hn n (List.mem_cons_self ..))) (fun e => ?_) fun e => ?_
    · rw [List.any_cons, e, Bool.false_or]
      exact kitAny_map h ns fun m hm => hn m (List.mem_cons_of_mem _ hm)
    · rw [List.any_cons, e, Bool.true_or]
theorem clsV_map : ∀ ns : List String, Paired ClsV (ns.map V.ty) (ns.map Value.type)
  | [] => .nil
  | n :: ns => .cons (.ty n) (clsV_map ns)
section
variable {X : Cx}
theorem call_isiU : CallR X (.builtin "isinstance") (RIsi X.K) := by
  intro pins s σ H xs us Q I r h
  cases h with
  | ty kn hn q =>
    obtain ⟨u1, u2, rfl, r1, r2⟩ := vals2 r
    cases (show u2 = Value.type _ from r2)
    obtain ⟨t, P, Z, p, hx, hk⟩ := kn_of I r1 kn
    exact PySem.W.kia_one Z I.kIn p (hk _ hn) hx fun tk => ⟨.bl _, H, I.tok tk, rfl, q⟩
theorem call_isiTU : CallR X (.builtin "isinstance") (RIsiT X.K) := by
  intro pins s σ H xs us Q I r h
  cases h with
  | @ty x tp ns k _ _ kn hT hn q =>
    obtain ⟨u1, u2, rfl, r1, r2⟩ := vals2 r
    cases (show u2 = Value.ref tp from r2)
    obtain ⟨t, P, Z, p, hx, hk⟩ := kn_of I r1 kn
    obtain ⟨_, its, rv, o, h1, h2, n, h3⟩ := (show ObjOk X.prog X.w H s.heap tp (.tup (ns.map V.ty)) from I.hok tp _ hT)
    have e3 := ClsV.all (clsV_map ns) rv
    subst e3
    obtain ⟨oc, od, dt, sl⟩ := o
    simp only at h2 h3
    subst h2 h3
    exact PySem.W.kia_tup Z I.kIn p h1 (kitAny_map hk ns hn) hx fun tk => ⟨.bl _, H, I.tok tk, rfl, q⟩
end
end Wk
set_option maxRecDepth 100000
set_option maxHeartbeats 4000000
namespace Wk
open PySem PySem.Spec PyProof.Rows L2
section
variable {K : PySem.W.Frag} {σ : L2.St} {H : Hp} {Q : VK} {ta tb tc te to : TE} {t tk : TA} {tl th : TO} {D : Ends}
theorem se_andV (h : ta σ H fun x H1 => ∃ c, x = .bl c ∧ if c = true then tb σ H1 Q else Q (.bl false) H1) : tAndV ta tb σ H Q := h
theorem se_orV (h : ta σ H fun x H1 => ∃ c, x = .bl c ∧ if c = true then Q (.bl true) H1 else tb σ H1 Q) : tOrV ta tb σ H Q := h
theorem se_notV (h : ta σ H fun x H1 => ∃ c, x = .bl c ∧ Q (.bl (!c)) H1) : tNotV ta σ H Q := h
theorem se_chain {r r' : R2} (h : ta σ H fun x H1 => tb σ H1 fun y H2 => r x y H2 fun z H3 => ∃ k, z = .bl k ∧ (if k = true then tc σ H3 fun w' H4 => r' y w' H4 Q else Q (.bl false) H3)) : tChain r r' ta tb tc σ H Q := h
theorem se_sl {r : V → Option Int → Option Int → Hp → VK → Prop} (h : te σ H fun x H1 => tl σ H1 fun l H2 => th σ H2 fun u H3 => r x l u H3 Q) : tSl r te tl th σ H Q := h
theorem so_none {P : Option Int → Hp → Prop} (h : P none H) : tNoPart σ H P := h
theorem so_some {P : Option Int → Hp → Prop} (h : te σ H fun x H1 => ∃ i, x = .int i ∧ P (some i) H1) : tPart te σ H P := h
theorem so_int {i : Int} {P : Int → Prop} (h : P i) : ∃ j, V.int i = .int j ∧ P j := ⟨i, rfl, h⟩
theorem se_m1 {r : V → List V → Hp → VK → Prop} (h : to σ H fun x H1 => (∃ a, x = .str a) ∧ te σ H1 fun y H2 => r x [y] H2 Q) : tM1 r to te σ H Q := h
theorem se_m0 {r : V → List V → Hp → VK → Prop} (h : to σ H fun x H1 => (∃ a, x = .str a) ∧ r x [] H1 Q) : tM0 r to σ H Q := h
theorem m_str {z : Str} {A : Prop} (h : A) : (∃ a, V.str z = .str a) ∧ A := ⟨⟨z, rfl⟩, h⟩
def MkEP (C : Addr) (vs : List V) (H : Hp) (Q : VK) : Prop := ∃ v, vs = [v] ∧ ∀ a d, H a = none → H d = none → d ≠ a → Q (.ref a) (upd (upd H d (exd d [(("found" : Str), v)])) a (exo a C (some d)))
def MkXP (C : Addr) (vs : List V) (H : Hp) (Q : XK) : Prop := ∃ v, vs = [v] ∧ ∀ d, H d = none → Q (.ref C) (some d) (upd H d (.xd [(("found" : Str), v)]))
theorem se_mkE {C : Addr} (h : t σ H fun vs H1 => MkEP C vs H1 Q) : tMkE C t σ H Q := h
theorem mkE_now {H D : Hp} {R : List (Addr × HO)} {v : V} {C : Addr} {Q : VK} (h : HI H R D) (k : ∀ a d H' D', HI H' R D' → Ex D D' → D' a = some (exo a C (some d)) → D' d = some (exd d [(("found" : Str), v)]) → Q (.ref a) H') : MkEP C [v] H Q := mkE_use h k
theorem st_raiseX {C : Addr} {W : L2.WX} (h : t σ H fun vs H1 => MkXP C vs H1 fun cls d H' => W cls d σ H') : tRaiseX C W t D σ H := h
theorem mkX_now {H D : Hp} {R : List (Addr × HO)} {v : V} {C : Addr} {Q : XK} (h : HI H R D) (k : ∀ d H' D', HI H' R D' → Ex D D' → D' d = some (.xd [(("found" : Str), v)]) → Q (.ref C) (some d) H') : MkXP C [v] H Q := mkX_use h k
theorem st_par {i j : Nat} (h : t σ H fun vs H1 => ∃ v w, vs = [v, w] ∧ D.nx ((σ.set i (some v)).set j (some w)) H1) : tPar i j t D σ H := h
theorem par_mk {x y : V} {P : V → V → Prop} (h : P x y) : ∃ v w, [x, y] = [v, w] ∧ P v w := ⟨x, y, rfl, h⟩
theorem st_aug {i : Nat} {ti : TIp} {x : V} (e : σ[i]? = some (some x)) (h : te σ H fun y H1 => ti x y H1 fun z H2 => D.nx (σ.set i (some z)) H2) : tAug i te ti D σ H := ⟨x, e, h⟩
inductive RMx : List V → Hp → VK → Prop
  | mk {i j : Int} {H : Hp} {Q : VK} : (∀ m, i ≤ m → j ≤ m → (m = i ∨ m = j) → Q (.int m) H) → RMx [.int i, .int j] H Q
inductive RMn : List V → Hp → VK → Prop
  | mk {i j : Int} {H : Hp} {Q : VK} : (∀ m, m ≤ i → m ≤ j → (m = i ∨ m = j) → Q (.int m) H) → RMn [.int i, .int j] H Q
inductive RAll : List V → Hp → VK → Prop
  | mk {p : Addr} {bs : List Bool} {H : Hp} {Q : VK} : H p = some (.lst (bs.map V.bl)) → Q (.bl (bs.all id)) H → RAll [.ref p] H Q
inductive RJoin : V → List V → Hp → VK → Prop
  | mk {z : Str} {p : Addr} {ys : List Str} {H : Hp} {Q : VK} : H p = some (.lst (ys.map V.str)) → (ys.map (·.length)).sum + ys.length * z.length ≤ 16777216 → Q (.str (Txt.join z ys)) H → RJoin (.str z) [.ref p] H Q
inductive RStarts : V → List V → Hp → VK → Prop
  | mk {x y : Str} {H : Hp} {Q : VK} : Q (.bl (Txt.startswith x y)) H → RStarts (.str x) [.str y] H Q
inductive RFind : V → List V → Hp → VK → Prop
  | mk {x y : Str} {H : Hp} {Q : VK} : Q (.int (Txt.find x y)) H → RFind (.str x) [.str y] H Q
/-- str(x) -/
inductive RStr : List V → Hp → VK → Prop
  | int {i : Int} {H : Hp} {Q : VK} : i.natAbs.log2 < 1920 → Q (.str (toString i)) H → RStr [.int i] H Q
/-- int(x) -/
inductive RInt : List V → Hp → VK → Prop
  | bl {b : Bool} {H : Hp} {Q : VK} : Q (.int (if b then 1 else 0)) H → RInt [.bl b] H Q
  | str {z : Str} {n : Int} {H : Hp} {Q : VK} : PySem.intText? z = some n → z.length ≤ 640 → Q (.int n) H → RInt [.str z] H Q
end
section
variable {X : Cx} {o e : Expr} {to te : TE}
theorem call_maxU (hc : X.calm = true) : CallR X (.builtin "max") RMx := by
  intro pins s σ H xs us Q I r h
  cases h with
  | @mk i j _ _ k =>
    refine call_max2 hc pins s σ H _ us Q I r ⟨i, j, rfl, ?_⟩
    by_cases c : j > i
    · rw [if_pos c]
      exact k j (by omega) (by omega) (.inr rfl)
    · rw [if_neg c]
      exact k i (by omega) (by omega) (.inl rfl)
theorem call_minU (hc : X.calm = true) : CallR X (.builtin "min") RMn := by
  intro pins s σ H xs us Q I r h
  cases h with
  | @mk i j _ _ k =>
    refine call_min2 hc pins s σ H _ us Q I r ⟨i, j, rfl, ?_⟩
    by_cases c : j < i
    · rw [if_pos c]
      exact k j (by omega) (by omega) (.inr rfl)
    · rw [if_neg c]
      exact k i (by omega) (by omega) (.inl rfl)
theorem call_allU (hc : X.calm = true) : CallR X (.builtin "all") RAll := by
  intro pins s σ H xs us Q I r h
  cases h with
  | mk e q => exact cr_all hc pins s σ H _ us Q I r ⟨_, _, rfl, SqL.of e, q⟩
theorem mt_joinU : MtR X "str.join" RJoin := by
  intro pins s σ H x xs v us Q I rx rs h
  cases h with
  | mk e hl q => exact mt_join pins s σ H _ _ v us Q I rx rs ⟨_, _, _, rfl, rfl, .inl (SqL.of e), hl, q⟩
end
theorem log2_small {i : Int} (h : i.natAbs < 2 ^ 200) : i.natAbs.log2 < 1920 := by
  by_cases z : i.natAbs = 0
  · rw [z]
    decide
  · have := (Nat.log2_lt z (k := 200)).mpr h
    omega
theorem pe_gi {X : Cx} {x : Str} {p : Pos} {i : Int} (hg : Gl X x) (h : ∃ t, X.mg x = some (.int i t)) (hdb : (x == ("__debug__" : Str)) = false := by decide) : PE X (.Name x p) (tC (.int i)) := let ⟨t, e⟩ := h; pe_glob hg e ⟨t, rfl⟩ hdb
theorem pe_gs {X : Cx} {x z : Str} {p : Pos} (hg : Gl X x) (h : ∃ t, X.mg x = some (.str z t)) (hdb : (x == ("__debug__" : Str)) = false := by decide) : PE X (.Name x p) (tC (.str z)) := let ⟨t, e⟩ := h; pe_glob hg e ⟨t, rfl⟩ hdb
section
variable {H : Hp} {Q : VK} {K : PySem.W.Frag}
theorem ru_mk {g : Int → V} {i : Int} (h : Q (g i) H) : rU g (.int i) H Q := ⟨i, rfl, h⟩
theorem req_int {i j : Int} (q : Q (.bl (decide (i = j))) H) : REq false (.int i) (.int j) H Q := .scal rfl (by
  have e : decide (V.int i = V.int j) = decide (i = j) := by simp
  rw [← e] at q
  exact q)
theorem rne_int {i j : Int} (q : Q (.bl (!decide (i = j))) H) : REq true (.int i) (.int j) H Q := .scal rfl (by
  have e : decide (V.int i = V.int j) = decide (i = j) := by simp
  rw [← e] at q
  exact q)
theorem req_str {i j : Str} (q : Q (.bl (decide (i = j))) H) : REq false (.str i) (.str j) H Q := .scal rfl (by
  have e : decide (V.str i = V.str j) = decide (i = j) := by simp
  rw [← e] at q
  exact q)
theorem rne_str {i j : Str} (q : Q (.bl (!decide (i = j))) H) : REq true (.str i) (.str j) H Q := .scal rfl (by
  have e : decide (V.str i = V.str j) = decide (i = j) := by simp
  rw [← e] at q
  exact q)
theorem req_dat {x y : V} {d e : PyData} (h1 : Rep H x d) (h2 : Rep H y e) (n1 : d.hasDict = false) (n2 : e.hasDict = false) (s1 : SeqAt.shaped d = true) (s2 : SeqAt.shaped e = true) (q : Q (.bl (PyData.eqv d e)) H) : REq false x y H Q := .dat h1 h2 n1 n2 s1 s2 q
theorem ris_non {x : V} (q : Q (.bl (decide (x = .non))) H) : RIs false x .non H Q := .non q
theorem ris_nonN {x : V} (q : Q (.bl (!decide (x = .non))) H) : RIs true x .non H Q := .non q
theorem ris_bl {x : V} {b : Bool} (q : Q (.bl (decide (x = .bl b))) H) : RIs false x (.bl b) H Q := .bl q
theorem ris_blN {x : V} {b : Bool} (q : Q (.bl (!decide (x = .bl b))) H) : RIs true x (.bl b) H Q := .bl q
theorem rin_sign {c : Nat} {z : Str} (q : Q (.bl (decide (c ∈ z.cps.toList))) H) : RIn false (.str ⟨#[c]⟩) (.str z) H Q := .sign q
theorem rni_sign {c : Nat} {z : Str} (q : Q (.bl (!decide (c ∈ z.cps.toList))) H) : RIn true (.str ⟨#[c]⟩) (.str z) H Q := .sign q
end
theorem Ex.of {D D' : Hp} {a : Addr} {o : HO} (h : D a = some o) (x : Ex D D') : D' a = some o := x a o h
/-- a short text of plain signs -/
structure TxtOk (z : Str) : Prop where
  len : z.length ≤ 1000
  sg : ∀ c ∈ z.cps.toList, c < 1000
theorem TxtOk.ok {z : Str} (h : TxtOk z) : PyData.strOk z = true := by
  unfold PyData.strOk
  rw [Array.all_eq_true']
  intro c hc
  have := h.sg c (by simpa using hc)
  simp
  omega
theorem TxtOk.sign {z : Str} {c : Nat} (h : TxtOk z) (m : c ∈ z.cps.toList) : TxtOk ⟨#[c]⟩ := ⟨by show 1 ≤ 1000; decide, fun d hd => by
  simp at hd
  rw [hd]
  exact h.sg c m⟩
theorem rep_strs {H : Hp} : ∀ ys : List Str, RepL H (ys.map V.str) (ys.map PyData.str)
  | [] => .nil
  | y :: ys => .cons (.str y) (rep_strs ys)
/-- how a value may be told apart -/
theorem Kn.told {K : PySem.W.Frag} {H : Hp} {v : V} {k : Knd} (h : Kn K H v k) : (v = .non ∧ k = .non) ∨ (∃ b, v = .bl b ∧ k = .bl) ∨ (∃ i, v = .int i ∧ k = .int) ∨ (∃ z, v = .str z ∧ k = .str) ∨ (∃ a, v = .ref a ∧ (k = .lst ∨ k = .tup ∨ k = .dict ∨ k = .oth)) := by
  cases h with
  | non => exact .inl ⟨rfl, rfl⟩
  | bl b => exact .inr (.inl ⟨b, rfl, rfl⟩)
  | int i => exact .inr (.inr (.inl ⟨i, rfl, rfl⟩))
  | str z => exact .inr (.inr (.inr (.inl ⟨z, rfl, rfl⟩)))
  | lst e => exact .inr (.inr (.inr (.inr ⟨_, rfl, .inl rfl⟩)))
  | frz e => exact .inr (.inr (.inr (.inr ⟨_, rfl, .inl rfl⟩)))
  | tup e => exact .inr (.inr (.inr (.inr ⟨_, rfl, .inr (.inl rfl)⟩)))
  | dict e => exact .inr (.inr (.inr (.inr ⟨_, rfl, .inr (.inr (.inl rfl))⟩)))
  | exc e ed c s => exact .inr (.inr (.inr (.inr ⟨_, rfl, .inr (.inr (.inr rfl))⟩)))
  | excq e ed c s => exact .inr (.inr (.inr (.inr ⟨_, rfl, .inr (.inr (.inr rfl))⟩)))
  | ins e c s => exact .inr (.inr (.inr (.inr ⟨_, rfl, .inr (.inr (.inr rfl))⟩)))
theorem atI_nat {α : Type} {xs : List α} {i : Nat} : atI xs (i : Int) = xs[i]? := by
  unfold atI ixN
  rw [if_pos (by omega)]
  by_cases h : i < xs.length
  · rw [if_pos (by omega)]
    simp
  · rw [if_neg (by omega)]
    simp at h
    simp [h]
theorem atI_map {α β : Type} {f : α → β} {xs : List α} {i : Nat} {x : α} (h : xs[i]? = some x) : atI (xs.map f) (i : Int) = some (f x) := by
  rw [atI_nat, List.getElem?_map, h]
  rfl
theorem atI_ofI {α : Type} {xs : List α} {i : Int} (h : 0 ≤ i) : atI xs i = xs[i.toNat]? := by
  obtain ⟨n, rfl⟩ := Int.eq_ofNat_of_zero_le h
  rw [atI_nat]
  rfl
end Wk
set_option maxRecDepth 100000
set_option maxHeartbeats 4000000
namespace Wk
open PySem PySem.Spec PyProof.Rows L2
/-- every sign is a plain one -/
def Sg (z : Str) : Prop := ∀ c ∈ z.cps.toList, c < 1000
theorem sg_of {z : Str} (h : (z.cps.toList.all fun c => decide (c < 1000)) = true) : Sg z := fun c hc => of_decide_eq_true (List.all_eq_true.mp h c hc)
theorem len_app (a b : Str) : (a ++ b).length = a.length + b.length := PySem.Str.length_append a b
theorem tl_app (a b : Str) : (a ++ b).cps.toList = a.cps.toList ++ b.cps.toList := by
  rw [PySem.Str.cps_append]
  simp
theorem Sg.app {a b : Str} (h : Sg a) (k : Sg b) : Sg (a ++ b) := fun c hc => by
  rw [tl_app] at hc
  rcases List.mem_append.mp hc with h1 | h1
  · exact h c h1
  · exact k c h1
theorem Sg.cut {z : Str} (h : Sg z) (lo hi : Option Int) : Sg (cutS z lo hi) := fun c hc => by
  unfold cutS at hc
  simp only at hc
  exact h c (List.mem_of_mem_drop (List.mem_of_mem_take (by simpa using hc)))
theorem len_cut (z : Str) (lo hi : Option Int) : (cutS z lo hi).length ≤ z.length := by
  show ((z.cps.toList.drop _).take _).toArray.size ≤ z.length
  rw [List.size_toArray, List.length_take, List.length_drop, cps_len0]
  omega
where cps_len0 {z : Str} : z.cps.toList.length = z.length := rfl
theorem Sg.one {z : Str} {c : Nat} (h : Sg z) (m : c ∈ z.cps.toList) : Sg ⟨#[c]⟩ := fun d hd => by
  simp at hd
  rw [hd]
  exact h c m
/-- a slice, a sum of texts, told by what they are made of alone -/
theorem rsl_some {z : Str} {lo hi : Option Int} {H : Hp} {Q : VK} (hl : z.length ≤ 1000000) (s : Sg z) (k : ∀ y, y.length ≤ z.length → Sg y → Q (.str y) H) : RSl (.str z) lo hi H Q := RSl.str (small_ok hl) (k _ (len_cut ..) (s.cut _ _))
theorem radd_some {a b : Str} {H : Hp} {Q : VK} (hl : a.length + b.length ≤ 1000000) (s1 : Sg a) (s2 : Sg b) (k : ∀ y, y.length = a.length + b.length → Sg y → Q (.str y) H) : RAdd (.str a) (.str b) H Q := RAdd.str (small_ok hl) (k _ (len_app ..) (s1.app s2))
theorem rep_size (a : Array Nat) : ∀ (n : Nat) (acc : Array Nat), ((List.replicate n a).foldl (· ++ ·) acc).size = acc.size + a.size * n
  | 0, acc => by simp
  | n + 1, acc => by
    rw [List.replicate_succ, List.foldl_cons, rep_size a n, Array.size_append, Nat.mul_succ]
    omega
theorem rep_mem (a : Array Nat) {c : Nat} : ∀ (n : Nat) (acc : Array Nat), c ∈ ((List.replicate n a).foldl (· ++ ·) acc).toList → c ∈ acc.toList ∨ c ∈ a.toList
  | 0, acc, h => .inl h
  | n + 1, acc, h => by
    rw [List.replicate_succ, List.foldl_cons] at h
    rcases rep_mem a n _ h with q | q
    · rw [Array.toList_append] at q
      exact List.mem_append.mp q
    · exact .inr q
theorem rmul_some {a : Str} {n : Int} {H : Hp} {Q : VK} (a0 : a.length = 1) (k0 : 1 ≤ n) (k1 : n ≤ 1000) (s : Sg a) (k : ∀ y, y.length = n.toNat → Sg y → Q (.str y) H) : RMul (.str a) (.int n) H Q := by
  refine RMul.str (by omega) (by omega) k0 k1 (k _ ?_ fun c hc => ?_)
  · show ((List.replicate n.toNat a.cps).foldl (· ++ ·) #[]).size = _
    rw [rep_size, show a.cps.size = 1 from a0]
    simp
  · rcases rep_mem a.cps n.toNat #[] hc with q | q
    · simp at q
    · exact s c q
theorem tst {i : Int} (h : i.natAbs < 10 ^ 30) : (Str.ofString (toString i)).length ≤ 31 ∧ Sg (Str.ofString (toString i)) := by
  refine ⟨?_, fun c hc => ?_⟩
  · rw [PySem.ofString_length]
    exact PySem.int_text_length_le10 (by decide) h
  · by_cases q : c < 1000
    · exact q
    · exact absurd hc (PyProof.Rows.int_text_free' c ⟨by omega, by omega⟩ i)
/-- texts of one plain sign each -/
def Ones (ys : List Str) : Prop := ∀ y ∈ ys, y.length = 1 ∧ Sg y
theorem Ones.sum : ∀ {ys : List Str}, Ones ys → (ys.map (·.length)).sum = ys.length
  | [], _ => rfl
  | y :: ys, h => by
    have ih := Ones.sum (ys := ys) fun z hz => h z (List.mem_cons_of_mem _ hz)
    have e := (h y (List.mem_cons_self ..)).1
    simp only [List.map_cons, List.sum_cons, List.length_cons, ih, e]
    omega
theorem Ones.snoc {ys : List Str} {z : Str} {c : Nat} (h : Ones ys) (hz : Sg z) (m : c ∈ z.cps.toList) : Ones (ys ++ [⟨#[c]⟩]) := fun y hy => by
  rcases List.mem_append.mp hy with h1 | h1
  · exact h y h1
  · rw [List.mem_singleton.mp h1]
    exact ⟨rfl, hz.one m⟩
/-- a drawn thing -/
def Th (K : PySem.W.Frag) (D : Hp) (v : V) : Prop := (∃ k, Kn K D v k) ∧ ∀ z, v = .str z → TxtOk z
theorem Th.kn {K : PySem.W.Frag} {D : Hp} {v : V} {k : Knd} (h : Kn K D v k) (n : ∀ z, v ≠ .str z := by intro z e; cases e) : Th K D v := ⟨⟨k, h⟩, fun z e => absurd e (n z)⟩
theorem Th.str {K : PySem.W.Frag} {D : Hp} {z : Str} (h : TxtOk z) : Th K D (.str z) := ⟨⟨_, .str z⟩, fun y e => by cases e; exact h⟩
theorem Th.mono {K : PySem.W.Frag} {D D' : Hp} {v : V} (h : Th K D v) (x : Ex D D') : Th K D' v := by
  obtain ⟨⟨k, a⟩, b⟩ := h
  exact ⟨⟨k, a.mono x⟩, b⟩
/-- one of the items -/
theorem atI_all {α : Type} {xs : List α} {P : α → Prop} {r : Int} (h : ∀ v ∈ xs, P v) (h0 : 0 ≤ r) (h1 : r < xs.length) : ∃ v, atI xs r = some v ∧ P v := by
  obtain ⟨n, rfl⟩ := Int.eq_ofNat_of_zero_le h0
  have hn : n < xs.length := by omega
  refine ⟨xs[n], ?_, h _ (List.getElem_mem hn)⟩
  rw [atI_nat]
  exact List.getElem?_eq_getElem hn
theorem all_c {α : Type} {x : α} {xs : List α} {P : α → Prop} (a : P x) (b : ∀ v ∈ xs, P v) : ∀ v ∈ x :: xs, P v := fun v hv => by
  rcases List.mem_cons.mp hv with e | e
  · rw [e]
    exact a
  · exact b v e
theorem all_n {α : Type} {P : α → Prop} : ∀ v ∈ ([] : List α), P v := fun v hv => by cases hv
/-- a list of which one item is taken -/
theorem RIx.pick {p : Addr} {xs : List V} {P : V → Prop} {r : Int} {H : Hp} {Q : VK} (e : H p = some (.lst xs)) (h : ∀ v ∈ xs, P v) (h0 : 0 ≤ r) (h1 : r < xs.length) (q : ∀ v, P v → Q v H) : RIx (.ref p) (.int r) H Q := by
  obtain ⟨v, e2, hv⟩ := atI_all h h0 h1
  exact RIx.l e e2 (q v hv)
/-- a sign of a text -/
theorem RIx.sgn {z : Str} {r : Int} {H : Hp} {Q : VK} (hl : z.length ≤ 1000000) (h0 : 0 ≤ r) (h1 : r < z.length) (q : ∀ c, c ∈ z.cps.toList → Q (.str ⟨#[c]⟩) H) : RIx (.str z) (.int r) H Q := by
  obtain ⟨c, e2, hc⟩ := atI_all (xs := z.cps.toList) (P := fun c => c ∈ z.cps.toList) (fun c h => h) h0 (by rw [show z.cps.toList.length = z.length from rfl]; exact h1)
  exact RIx.s (small_ok hl) e2 (q c hc)
section
variable {K : PySem.W.Frag} {σ : L2.St} {H : Hp} {Q : VK}
theorem se_dnewK (h : AlD (.dK []) H Q) : tDNewK σ H Q := h
def DispP (p : Addr) (ps : List (V × V)) (H : Hp) (Q : VK) : Prop := H p = some (.dK []) ∧ ∃ kvs : List (Key × V), ps = kvs.map (fun kv => (kV kv.1, kv.2)) ∧ kvs.length ≤ 15 ∧ Q (.ref p) (upd H p (.dK (mergeK [] kvs)))
theorem se_disp {D : Hp} {R : Cells} {trs : List (TE × TE)} (hi : HI H R D) (h : ∀ p H1, HI H1 ((p, .dK []) :: R) D → tPairs trs σ H1 fun ps H2 => DispP p ps H2 Q) : tDisp trs σ H Q := fun p hp => h p _ (hi.new hp)
theorem sp_nil {N : List (V × V) → Hp → Prop} (h : N [] H) : tPairs [] σ H N := h
theorem sp_cons {tk tv : TE} {trs : List (TE × TE)} {N : List (V × V) → Hp → Prop} (h : tk σ H fun x H1 => tv σ H1 fun y H2 => tPairs trs σ H2 fun ps H3 => N ((x, y) :: ps) H3) : tPairs ((tk, tv) :: trs) σ H N := h
def keysOf : List (V × V) → Option (List (Key × V))
  | [] => some []
  | (.int i, v) :: r => (keysOf r).map fun l => (.inl i, v) :: l
  | (.str x, v) :: r => (keysOf r).map fun l => (.inr x, v) :: l
  | _ => none
theorem keysOf_ok : ∀ {ps : List (V × V)} {kvs : List (Key × V)}, keysOf ps = some kvs → ps = kvs.map fun kv => (kV kv.1, kv.2)
  | [], kvs, e => by
    cases e
    rfl
  | (x, v) :: r, kvs, e => by
    cases x with
    | int i =>
      obtain ⟨l, e1, rfl⟩ := Option.map_eq_some_iff.mp (show (keysOf r).map _ = some kvs from e)
      rw [keysOf_ok e1]
      rfl
    | str z =>
      obtain ⟨l, e1, rfl⟩ := Option.map_eq_some_iff.mp (show (keysOf r).map _ = some kvs from e)
      rw [keysOf_ok e1]
      rfl
    | _ => cases e
theorem disp_now {p : Addr} {ps : List (V × V)} {kvs : List (Key × V)} {R : Cells} {D : Hp} (hi : HI H ((p, .dK []) :: R) D) (e : keysOf ps = some kvs) (hl : kvs.length ≤ 15) (k : ∀ H' D', HI H' R D' → Ex D D' → D' p = some (.dK (mergeK [] kvs)) → Q (.ref p) H') : DispP p ps H Q :=
  ⟨hi.get (List.mem_cons_self ..), kvs, keysOf_ok e, hl, k _ _ (hi.set (u := .dK (mergeK [] kvs))).freeze (hi.set (u := .dK (mergeK [] kvs))).freezeX upd_same⟩
end
end Wk
set_option maxRecDepth 100000
set_option maxHeartbeats 4000000
namespace Wk
open PySem PySem.Spec PyProof.Rows L2
def noList (K : PySem.W.Frag) : Bool := K.all fun p => !(p.2.cls == .type "list")
theorem noList_ok : ∀ {K : PySem.W.Frag} {a : Addr} {o : Obj}, noList K = true → K.lookup a = some o → o.cls = .type "list" → False
  | [], a, o, _, e, _ => nomatch (show (none : Option Obj) = some o from e)
  | (b, ob) :: r, a, o, h, e, hc => by
    unfold noList at h
    rw [List.all_cons] at h
    obtain ⟨h1, h2⟩ := He.ba h
    have e2 : (match a == b with | true => some ob | false => List.lookup a r) = some o := e
    cases q : (a == b) with
    | true =>
      rw [q] at e2
      have eo : ob = o := Option.some.inj e2
      rw [eo, hc] at h1
      exact absurd h1 (by decide +kernel)
    | false =>
      rw [q] at e2
      exact noList_ok (K := r) h2 e2 hc
theorem law_endG {l : PySem.W.OpenLaw} {n k : Nat} {q : Program} {loose : List Str} {XP : (Str → Option Value) → Heap → Prop} {YP : World → Heap → Prop} {d : DefRec} {x : Str}
    (hn : l.most = some n) (hn2 : n ≤ sizeLine) (hdf : d.params.defaults = []) (hr : Room k callerA)
    (F : ∀ (w : World) (mg : Str → Option Value) (fa : Addr) (h : Heap), YP w h → h.Ns mainGlobals mg → mg d.name = some (.ref fa) →
      ∃ (K : PySem.W.Frag) (sp : Sp), K.In h ∧ noList K = true ∧ (∀ (s : Shared) (u : Value), BindsTo s (fdOf K fa) ⟨[u], []⟩ [(x, u)]) ∧
        (∀ (H : Hp) (a : Addr) (o : Obj) (ns : List Int), ns.length ≤ n → HI H [] H → H a = some (.frz o (.lst (ns.map V.int))) → sp [.ref a] H (fun v _ => v = .bl true) fun _ _ _ => False) ∧
        ∀ base : Heap, K.In base → base.Ns mainGlobals mg → FnG l.prog w K mg base k fa [x] sp) :
    PySem.W.WalkO q loose XP YP l.row.toRowW d [] (fun f vs => PySem.call f vs) := by
  refine Att.attach_call hn hdf fun w s₀ s₁ mg mb fa o pm cd doc a vs ns G Y ho hd hcd hmg hobj hints hlen hg => ?_
  obtain ⟨K, sp, KX, hno, hb, hsp, hF⟩ := F w mg fa _ Y G.T.g hmg
  have hns := G.T.g
  have ha := hobj
  have hl : ns.length ≤ sizeLine := Nat.le_trans hlen hn2
  have rv := vals_ints hints
  have hk : K.lookup a = none := by
    cases e : K.lookup a with
    | none => rfl
    | some ob =>
      have e1 := KX a ob e
      rw [ha] at e1
      cases e1
      exact (noList_ok hno e rfl).elim
  let H : Hp := fun b => if b = a then some (.frz { cls := .type "list", data := .seq vs.toArray } (.lst (ns.map V.int))) else none
  have Ha : H a = some (.frz { cls := .type "list", data := .seq vs.toArray } (.lst (ns.map V.int))) := if_pos rfl
  have Hn : ∀ {b : Addr}, b ≠ a → H b = none := fun hb => if_neg hb
  have Hs : ∀ {b : Addr} {u : HO}, H b = some u → b = a := fun {b u} z => by
    by_cases hb : b = a
    · exact hb
    · rw [Hn hb] at z
      cases z
  have hok : HOk l.prog w H s₁.heap := fun b u z => by
    have hb := Hs z
    subst hb
    rw [Ha] at z
    cases z
    exact ⟨ha, by rw [List.length_map]; exact hl, vs, _, rv, ha⟩
  have base_of : ∀ {b : Addr} {o : Obj}, s₁.heap.get? b = some o → H b = none → (hidT s₁.heap H).get? b = some o := fun e n => hidT_get e n
  have noA : ∀ {b : Addr} {o : Obj} {es : Array DictEntry} {ep : Nat}, s₁.heap.get? b = some o → o.data = .dict es ep → H b = none := fun {b o es ep} e d => by
    by_cases hb : b = a
    · subst hb
      rw [ha] at e
      cases e
      have d' : Data.seq vs.toArray _ = Data.dict es ep := d
      cases d'
    · exact Hn hb
  have nsK : ∀ {b : Addr} {m : Str → Option Value}, s₁.heap.Ns b m → (hidT s₁.heap H).Ns b m := fun {b m} ⟨o, es, ep, e, d, r⟩ => ⟨o, es, ep, base_of e (noA e d), d, r⟩
  have hKb : K.In (hidT s₁.heap H) := fun b o e => base_of (KX b o e) (by
    by_cases hb : b = a
    · rw [hb, hk] at e
      cases e
    · exact Hn hb)
  have hM : Mod K mg (hidT s₁.heap H) := ⟨hKb, nsK hns, ⟨mb, nsK G.T.b, G.T.builtins⟩, let ⟨mc, h1, h2⟩ := G.T.nolimit; ⟨mc, nsK h1, h2⟩⟩
  have e0 : Env0 l.prog w K mg (hidT s₁.heap H) callerA [] s₁ H := ⟨rfl, hM, fun b o e => of_hidT e, Nat.le_of_eq (hidT_size _ _), trivial, fun b hb => absurd (show b ∈ ([] : List Addr) from hb) (by simp), hok, .of_eq hg⟩
  have hI : HI H [] H := ⟨by simp, (fun p hp => by cases hp), fun b u z => z⟩
  refine codeAny_mono ((hF _ hKb (nsK hns)).run callerA [] s₁ H ⟨[.ref a], []⟩ [.ref a] [.ref a] _ _ rfl hr e0 (hb s₁ (.ref a)) (.cons rfl .nil) (hsp H a _ ns hlen hI Ha)) fun r s' h => ?_
  cases r with
  | error e =>
    obtain ⟨_, _, _, _, _, _, _, _, _, _, _, _, z⟩ := h
    exact z.elim
  | ok fl =>
    cases fl with
    | next => exact False.elim h
    | brk => exact False.elim h
    | cont => exact False.elim h
    | ret u =>
      obtain ⟨v, H', os, bare, un, hok', r', q⟩ := h
      have q' : v = .bl true := q
      subst q'
      obtain rfl : u = Value.bool true := r'
      refine ⟨rfl, OldK.of_keep fun b o e => ?_, os, bare⟩
      by_cases hb : b = a
      · subst hb
        have z2 := un.frzs b _ _ Ha
        obtain ⟨e2, _⟩ := hok' b _ z2
        rw [ha] at e
        cases e
        exact e2
      · exact un.keep b o e (Hn hb) (by intro z; exact absurd (show b ∈ ([] : List Addr) from z) (by simp)) (by simp)
end Wk
set_option maxRecDepth 100000
set_option maxHeartbeats 4000000
namespace Wk
open PySem PySem.Spec PyProof.Rows L2
section
variable {X : Cx} {k : Nat} {f C : Addr} {ps : List Str} {sp : Sp} {pins : List (Addr × Obj)} {σ : L2.St} {H : Hp} {s : Shared} {Q : VK}
theorem run_at {A : Around} {us : List Value} {vs : List V} (F : FnG X.prog X.w X.K X.mg X.base k f ps sp) (hgu : A.guards = some []) (hfr : A.frames = X.A.frames) (hr : Room k A) (hb : Binds X.K (fdOf X.K f) ps []) (I : Inv X pins σ H s) (r : Vals vs us)
    (h : sp vs H Q (fun _ _ _ => False)) : wpAny (model X.prog X.w) A (call (.ref f) us) (fun u s' => ∃ v H', Inv X pins σ H' s' ∧ RelV v u ∧ Q v H') X.xe s := by
  have e0 : Env0 X.prog X.w X.K X.mg X.base A X.stack s H := by
    have e := I.env0
    exact ⟨by rw [hfr]; exact e.frames, e.mod, e.bs, e.bsz, e.funs, e.frf, e.hok, e.bare⟩
  have hl := F.len _ _ _ _ h
  refine wpAny_call (codeAny_mono (F.run A X.stack s H ⟨us, []⟩ us vs Q _ hgu hr e0 (by
    have := hb s us I.kIn (by simp [← r.length, hl])
    simpa using this) r h) fun r s' hq => ?_)
  cases r with
  | error e =>
    obtain ⟨_, _, _, _, _, _, _, _, _, _, _, _, z⟩ := hq
    exact z.elim
  | ok fl =>
    cases fl with
    | ret u =>
      obtain ⟨v, H', I', rv, q⟩ := I.after hq
      exact ⟨v, H', I', rv, q⟩
    | next => exact False.elim hq
    | brk => exact False.elim hq
    | cont => exact False.elim hq
/-- the instance as the library's rules want it -/
theorem ins_at {a dx : Addr} {fs : List (Str × V)} (I : Inv X pins σ H s) (e : H a = some (.ins C dx fs)) : ∃ ox od, PySem.W.InstAt s.heap a ox C (some od) := by
  obtain ⟨mA, O, _⟩ := ins_get I.hok e
  obtain ⟨od, J, _⟩ := O.look
  exact ⟨_, od, J⟩
end
def seven : List String := ["NoneType", "int", "bool", "str", "list", "tuple", "dict"]
/-- an instance or an exception of an own class -/
inductive Ow (K : PySem.W.Frag) (H : Hp) : V → Addr → Prop where
  | exc {a d C : Addr} {fs : List (Str × V)} (e : H a = some (exo a C (some d))) (ed : H d = some (exd d fs)) (c : ExcC K C) : Ow K H (.ref a) C
  | excq {a d C t1 : Addr} {fs : List (Str × V)} (e : H a = some (exq a C (some d) t1)) (ed : H d = some (exd d fs)) (c : ExcC K C) : Ow K H (.ref a) C
  | ins {a C dx : Addr} {fs : List (Str × V)} (e : H a = some (.ins C dx fs)) (c : InsC K C) : Ow K H (.ref a) C
theorem Ow.mono {K : PySem.W.Frag} {H H' : Hp} {v : V} {C : Addr} (h : Ow K H v C) (x : Ex H H') : Ow K H' v C := by
  cases h with
  | exc e ed c => exact .exc (x _ _ e) (x _ _ ed) c
  | excq e ed c => exact .excq (x _ _ e) (x _ _ ed) c
  | ins e c => exact .ins (x _ _ e) c
def Knd.tn : Knd → Option String
  | .non => some "NoneType"
  | .bl => some "bool"
  | .int => some "int"
  | .str => some "str"
  | .lst => some "list"
  | .tup => some "tuple"
  | .dict => some "dict"
  | .oth => none
/-- a value's type -/
inductive Ty (K : PySem.W.Frag) (H : Hp) : V → Value → Prop where
  | b {v : V} {k : Knd} {n : String} (h : Kn K H v k) (hn : n ∈ seven) (e : k.tn = some n) : Ty K H v (.type n)
  | o {v : V} {C : Addr} (h : Ow K H v C) : Ty K H v (.ref C)
section
variable {X : Cx} {pins : List (Addr × Obj)} {σ : L2.St} {H : Hp} {s : Shared}
theorem ty_of {v : V} {u t : Value} (I : Inv X pins σ H s) (rx : RelV v u) (h : Ty X.K H v t) : ∃ (P : Heap → Prop), PySem.W.KitX X.K u t P ∧ P s.heap ∧ u ≠ .builtin "__main__.__loader__#opaque" := by
  have go : ∀ {t : Value}, TyX X.K H v t → ∃ (P : Heap → Prop), PySem.W.KitX X.K u t P ∧ P s.heap ∧ u ≠ .builtin "__main__.__loader__#opaque" := fun ty => kit_of I rx ty
  cases h with
  | b h hn e =>
    cases h with
    | non => cases e; exact go (.base .non)
    | bl c => cases e; exact go (.base (.bl c))
    | int i => cases e; exact go (.base (.int i))
    | str z => cases e; exact go (.base (.str z))
    | lst e2 => cases e; exact go (.base (.lst e2))
    | frz e2 => cases e; exact go (.base (.frz e2))
    | tup e2 => cases e; exact go (.base (.tup e2))
    | dict e2 => cases e; exact go (.base (.dK e2))
    | exc e2 ed c s => cases e
    | excq e2 ed c s => cases e
    | ins e2 c s => cases e
  | o h =>
    cases h with
    | ins e c => exact go (.base (.ins e c.cl c.ha c.hn c.ht c.hm))
    | @exc a d C fs e ed c =>
      cases (show u = Value.ref a from rx)
      obtain ⟨t1, ho⟩ := exo_at I.hok e
      obtain ⟨mA, hns, rel⟩ := exd_at I.hok ed
      obtain ⟨oD, _, _, hoD, _, _⟩ := hns.count (within_of rel)
      exact ⟨_, kitx_X (od := oD) c, ⟨ho, rfl, rfl, hoD⟩, (fun z => nomatch z)⟩
    | @excq a d C t1 fs e ed c =>
      cases (show u = Value.ref a from rx)
      have ho := exq_at I.hok e
      obtain ⟨mA, hns, rel⟩ := exd_at I.hok ed
      obtain ⟨oD, _, _, hoD, _, _⟩ := hns.count (within_of rel)
      exact ⟨_, kitx_X (od := oD) c, ⟨ho, rfl, rfl, hoD⟩, (fun z => nomatch z)⟩
end
/-- isinstance(x, C), C an own class -/
inductive RIsiC (K : PySem.W.Frag) : List V → Hp → VK → Prop
  | ty {x : V} {C : Addr} {t : Value} {b : Bool} {H : Hp} {Q : VK} : Ty K H x t → PySem.W.kitOne K t (.ref C) = some b → Q (.bl b) H → RIsiC K [x, .ref C] H Q
theorem call_isiC {X : Cx} : CallR X (.builtin "isinstance") (RIsiC X.K) := by
  intro pins s σ H xs us Q I r h
  cases h with
  | ty ty e q =>
    obtain ⟨u1, u2, rfl, r1, r2⟩ := vals2 r
    cases (show u2 = Value.ref _ from r2)
    obtain ⟨P, Z, p, hx⟩ := ty_of I r1 ty
    exact PySem.W.kia_one Z I.kIn p e hx fun tk => ⟨.bl _, H, I.tok tk, rfl, q⟩
open PySem.W PySem.Calls in
theorem cmp_ne {prog : Program} {w : World} {A : Around} {E : Value → Shared → Prop} {s : Shared} {K : Frag} {x C f : Addr} {ox od : Obj} {b tb : Value} {Q : Value → Shared → Prop} (hu : A.in1.units < cLine) (X : K.In s.heap) (I : InstAt s.heap x ox C (some od)) (hb : Looks (model prog w) s.heap (typeOf b) tb) (hn : notFirst K C tb = true)
    (hs : findIn K (.ref C) "__ne__" = some (some (.builtin "object.__ne__"))) (hm : mroIn K C (.type "object") = some true) (he : findIn K (.ref C) "__eq__" = some (some (.ref f))) (hf : isFn K (.ref f) = true)
    (h : wpAny (model prog w) A.in1 (call (.ref f) [.ref x, b]) (fun v s' => ∃ c, v = .bool c ∧ Q (.bool (!c)) s') E s) : wpAny (model prog w) A (richCompare .NotEq (.ref x) b) Q E s := by
  have hu0 : A.units < cLine := Nat.lt_of_succ_lt hu
  have body : wpAny (model prog w) A (call (.builtin "object.__ne__") [.ref x, b]) (fun v s' => ∃ c, v = .bool c ∧ Q v s') E s := by
    refine wpAny_call (codeAny_call_builtin (by decide +kernel) PySem.F.cmpEntry_ne (check_slot (i := "object.__ne__") (owner := "object") (n := "__ne__") (by decide +kernel) (by decide +kernel) (I.type.andThen (looks_mroIn X hm)) (PySem.F.cmpArgs_ne _ _) ?_))
    unfold Builtin.«object.__ne__»
    refine wpAny_bind (m := slotArgs "__ne__" 1 _) (wpAny_pure ?_)
    refine wpAny_bind (m := cRoomFor _ _) (wpAny_cRoomFor hu ?_)
    refine wpAny_bind (m := callSpecialIfBound? (.ref x) (Str.ofString "__eq__") _) (ifBound_K X I he hf (wpAny_mono h (fun v s' hv => ?_) fun _ _ z => z))
    obtain ⟨c, rfl, q⟩ := hv
    refine wpAny_bind (m := truthy (.bool c)) (wpAny_truthy_bool ?_)
    exact wpAny_pure ⟨_, rfl, q⟩
  have bound : ∀ {P : Option Value → Shared → Prop}, wpAny (model prog w) A (call (.builtin "object.__ne__") [.ref x, b]) (fun v s' => P (some v) s') E s → wpAny (model prog w) A (callSpecialIfBound? (.ref x) "__ne__" [b]) P E s := fun {P} hP => by
    simp only [callSpecialIfBound?, bindSpecialIfBound?]
    have hbd : bindSpecial (.builtin "object.__ne__") (.ref x) = (pure (.builtin "object.__ne__", [.ref x]) : Sem (Value × List Value)) := by kernel_rfl
    refine wpAny_holding (wpAny_bind (wpAny_bind (wpAny_bind (I.type.here ((looks_findIn X hs).here ?_)))))
    refine wpAny_bind (wpAny_askSetting (wpAny_ite ?_))
    have fin : wpAny (model prog w) A (call (.builtin "object.__ne__") ([.ref x] ++ [b]) >>= fun v => pure (some v)) P E s := wpAny_bind (wpAny_mono hP (fun v s' z => wpAny_pure z) fun _ _ z => z)
    split
    · exact wpAny_bind ((Looks.of_pure hbd).here (wpAny_pure (by exact fin)))
    · exact wpAny_tryCatch (wpAny_bind ((Looks.of_pure hbd).here (wpAny_pure (by exact fin))))
  have one : wpAny (model prog w) A (tryCompare (.ref x) "__ne__" b) (fun r s' => ∃ v, r = some v ∧ Q v s') E s := by
    unfold tryCompare
    refine wpAny_bind (bound (wpAny_mono body (fun v s' hv => ?_) fun _ _ z => z))
    obtain ⟨c, rfl, q⟩ := hv
    exact wpAny_pure ⟨_, rfl, q⟩
  unfold richCompare
  simp only [oneThing_ref]
  refine wpAny_holding (wpAny_bind (wpAny_cRoomFor hu0 ?_))
  refine wpAny_bind (I.type.here (wpAny_bind (hb.here ?_)))
  have fin : wpAny (model prog w) A (tryCompare (.ref x) "__ne__" b) (fun r s' => ∃ v, r = some v ∧ Q v s') E s := one
  split
  · rename_i q
    have e : subIn K tb (.ref C) = some false := by
      rcases Bool.or_eq_true_iff.mp hn with e | e
      · rw [beq_iff_eq.mp e] at q
        simp at q
      · exact beq_iff_eq.mp e
    refine wpAny_bind ((looks_subIn X e).here ?_)
    simp only [Bool.false_eq_true, if_false]
    refine wpAny_bind (wpAny_mono fin (fun r s' z => ?_) fun _ _ z => z)
    obtain ⟨v, rfl, hq⟩ := z
    exact wpAny_pure hq
  · refine wpAny_bind (wpAny_pure ?_)
    simp only [Bool.false_eq_true, if_false]
    refine wpAny_bind (wpAny_mono fin (fun r s' z => ?_) fun _ _ z => z)
    obtain ⟨v, rfl, hq⟩ := z
    exact wpAny_pure hq
/-- what the class tells of its comparing -/
structure EqC (K : PySem.W.Frag) (C f : Addr) : Prop where
  eq : PySem.W.findIn K (.ref C) "__eq__" = some (some (.ref f))
  fn : PySem.W.isFn K (.ref f) = true
  ne : PySem.W.findIn K (.ref C) "__ne__" = some (some (.builtin "object.__ne__"))
  hm : PySem.W.mroIn K C (.type "object") = some true
/-- x == y, x != y: the left one an instance of C, or no own object is near -/
inductive REqO (K : PySem.W.Frag) (C : Addr) (sp : Sp) (neg : Bool) : V → V → Hp → VK → Prop
  | b {x y : V} {H : Hp} {Q : VK} : REq neg x y H Q → REqO K C sp neg x y H Q
  | o {a dx : Addr} {fs : List (Str × V)} {y : V} {t : Value} {H : Hp} {Q : VK} : H a = some (.ins C dx fs) → Ty K H y t → PySem.W.notFirst K C t = true →
      sp [.ref a, y] H (fun v H' => ∃ c, v = .bl c ∧ Q (.bl (if neg then !c else c)) H') (fun _ _ _ => False) → REqO K C sp neg (.ref a) y H Q
section
variable {X : Cx} {k : Nat} {f C : Addr} {sp : Sp} {ps : List Str}
theorem op_eqO (E : EqC X.K C f) (F : FnG X.prog X.w X.K X.mg X.base k f ps sp) (hb : Binds X.K (fdOf X.K f) ps []) (hgu : X.A.guards = some []) (hr : Room (k + 1) X.A) : OpR X (compareOp .Eq) (REqO X.K C sp false) := by
  intro pins s σ H x y v u Q I rx ry h
  cases h with
  | b q => exact op_eqU hr.units pins s σ H _ _ v u Q I rx ry q
  | @o a dx fs _ t _ _ e ty hn q =>
    obtain rfl : v = Value.ref a := rx
    obtain ⟨ox, od, J⟩ := ins_at I e
    obtain ⟨P, Z, p, _⟩ := ty_of I ry ty
    obtain ⟨m, hF⟩ := I.fr
    refine PySem.W.cmp_K (op := .Eq) hr.units0 hF I.ok.mod.kin J (Z.ty _ _ I.kIn p) hn E.eq E.fn ?_
    refine wpAny_mono (run_at F hgu rfl (hr.mono (Nat.le_succ _)) hb I (.cons (show L2.RelV (.ref a) (.ref a) from rfl) (.cons ry .nil)) q) (fun u' s' hu => ?_) fun _ _ z => z
    obtain ⟨w, H', I', rw', c, rfl, q'⟩ := hu
    obtain rfl : u' = Value.bool c := rw'
    exact ⟨.bl c, H', I', rfl, q'⟩
theorem op_neO (E : EqC X.K C f) (F : FnG X.prog X.w X.K X.mg X.base k f ps sp) (hb : Binds X.K (fdOf X.K f) ps []) (hgu : X.A.guards = some []) (hr : Room (k + 1) X.A) : OpR X (compareOp .NotEq) (REqO X.K C sp true) := by
  intro pins s σ H x y v u Q I rx ry h
  cases h with
  | b q => exact op_neU hr.units pins s σ H _ _ v u Q I rx ry q
  | @o a dx fs _ t _ _ e ty hn q =>
    obtain rfl : v = Value.ref a := rx
    obtain ⟨ox, od, J⟩ := ins_at I e
    obtain ⟨P, Z, p, _⟩ := ty_of I ry ty
    show wpAny (model X.prog X.w) X.A (richCompare .NotEq (.ref a) u) (EP X pins σ Q) X.xe s
    refine cmp_ne hr.in1.units0 I.kIn J (Z.ty _ _ I.kIn p) hn E.ne E.hm E.eq E.fn ?_
    refine wpAny_mono (run_at F (by exact hgu) rfl hr.in1 hb I (.cons (show L2.RelV (.ref a) (.ref a) from rfl) (.cons ry .nil)) q) (fun u' s' hu => ?_) fun _ _ z => z
    obtain ⟨w, H', I', rw', c, rfl, q'⟩ := hu
    obtain rfl : u' = Value.bool c := rw'
    exact ⟨c, rfl, ⟨.bl (!c), H', I', rfl, q'⟩⟩
end
end Wk
set_option maxRecDepth 100000
set_option maxHeartbeats 4000000
namespace Wk
open PySem PySem.Spec PyProof.Rows L2
structure PC (K : PySem.W.Frag) (C : Addr) (fl : List Str) : Prop where
  c : Cls K C
  n : ∀ f ∈ fl, NoAttr K C f
def FldP (K : PySem.W.Frag) (f : Str) (x : V) (H : Hp) (Q : VK) : Prop := ∃ a C dx fs v, x = .ref a ∧ H a = some (.ins C dx fs) ∧ Cls K C ∧ NoAttr K C f ∧ fs.lookup f = some v ∧ Q v H
def SFldP (K : PySem.W.Frag) (f : Str) (x y : V) (H : Hp) (N : Hp → Prop) : Prop := ∃ a C dx fs, x = .ref a ∧ H a = some (.ins C dx fs) ∧ Cls K C ∧ NoAttr K C f ∧ fs.length < 1000 ∧ N (upd H a (.ins C dx (putF f y fs)))
def MethP (C : Addr) (m : Str) (x : V) (H : Hp) (N : Prop) : Prop := ∃ a dx fs, x = .ref a ∧ H a = some (.ins C dx fs) ∧ fs.lookup m = none ∧ N
def MakeP (C : Addr) (sp : Sp) (vs : V → List V) (H : Hp) (Q : VK) (E : XK) : Prop := ∀ x dx, H x = none → H dx = none → dx ≠ x → sp (vs (.ref x)) (upd (upd H dx (.own x)) x (.ins C dx [])) (fun v H2 => v = .non ∧ Q (.ref x) H2) E
section
variable {K : PySem.W.Frag} {σ : L2.St} {H D : Hp} {R : Cells} {Q : VK} {ta tv : TE} {t tk : TA} {f m : Str} {C a dx : Addr} {fs : List (Str × V)} {fl : List Str} {x y v : V} {sp : Sp} {dvs : List V} {E : L2.St → XK} {Ds : Ends}
theorem se_fld (h : ta σ H fun x H1 => FldP K f x H1 Q) : tFld K ta f σ H Q := h
theorem st_fld (h : tv σ H fun y H1 => ta σ H1 fun x H2 => SFldP K f x y H2 fun H3 => Ds.nx σ H3) : sFld K ta tv f Ds σ H := h
theorem fld_mk (e : H a = some (.ins C dx fs)) (pc : PC K C fl) (hf : f ∈ fl) (l : fs.lookup f = some v) (q : Q v H) : FldP K f (.ref a) H Q := ⟨a, C, dx, fs, v, rfl, e, pc.c, pc.n f hf, l, q⟩
theorem sfld_now {N : Hp → Prop} (hi : HI H ((a, .ins C dx fs) :: R) D) (pc : PC K C fl) (hf : f ∈ fl) (hl : fs.length < 1000) (k : ∀ H', HI H' ((a, .ins C dx (putF f y fs)) :: R) D → N H') : SFldP K f (.ref a) y H N :=
  ⟨a, C, dx, fs, rfl, hi.get (List.mem_cons_self ..), pc.c, pc.n f hf, hl, k _ hi.set⟩
theorem se_meth (h : ta σ H fun x H1 => MethP C m x H1 (t σ H1 fun vs H2 => sp (x :: (vs ++ dvs)) H2 Q (E σ))) : gMeth C m sp dvs E ta t σ H Q := h
theorem meth_mk {N : Prop} (e : H a = some (.ins C dx fs)) (l : fs.lookup m = none) (h : N) : MethP C m (.ref a) H N := ⟨a, dx, fs, rfl, e, l, h⟩
theorem se_make (h : t σ H fun vs H1 => MakeP C sp (fun x => x :: (vs ++ dvs)) H1 Q (E σ)) : gMake C sp dvs E t σ H Q := h
theorem make_now {vs : V → List V} {E : XK} (hi : HI H R D) (k : ∀ x dx H', HI H' ((x, .ins C dx []) :: (dx, .own x) :: R) D → sp (vs (.ref x)) H' (fun v H2 => v = .non ∧ Q (.ref x) H2) E) : MakeP C sp vs H Q E := fun x dx hx hd ne => by
  have h1 := hi.new (o := .own x) hd
  exact k x dx _ (h1.new (o := .ins C dx []) (by rw [upd_ne ne.symm]; exact hx))
end
/-- the instance stands -/
theorem HI.freezeI {H D : Hp} {R : Cells} {a dx C : Addr} {fs : List (Str × V)} (h : HI H ((a, .ins C dx fs) :: (dx, .own a) :: R) D) : ∃ D', HI H R D' ∧ Ex D D' ∧ D' a = some (.ins C dx fs) := by
  have h1 := h.freeze
  have h2 := h1.freeze
  refine ⟨_, h2, h.freezeX.trans h1.freezeX, ?_⟩
  have ne : a ≠ dx := fun e => by
    have nd := h.nd
    simp only [List.map_cons] at nd
    exact (List.nodup_cons.mp nd).1 (by rw [e]; exact List.mem_cons_self ..)
  rw [upd_ne ne]
  exact upd_same
def gMethN (C : Addr) (m : Str) (n j : Nat) (sp : Sp) (gV : List V → List V → List V) (E : L2.St → XK) (ta : TE) (t tk : TA) : TE := fun σ H Q => ta σ H fun x H1 => MethP C m x H1 (t σ H1 fun vs H2 => tk σ H2 fun zs H3 => vs.length = n ∧ zs.length = j ∧ sp (gV (x :: vs) zs) H3 Q (E σ))
def gMakeN (C : Addr) (n j : Nat) (sp : Sp) (gV : List V → List V → List V) (E : L2.St → XK) (t tk : TA) : TE := fun σ H Q => t σ H fun vs H1 => tk σ H1 fun zs H2 => vs.length = n ∧ zs.length = j ∧ MakeP C sp (fun x => gV (x :: vs) zs) H2 Q (E σ)
section
variable {X : Cx} {k n : Nat} {f C : Addr} {ps ks : List Str} {sp : Sp} {E : L2.St → XK} {x m : Str} {p pos apos : Pos} {e o : Expr} {es : List Expr} {kws : List Keyword} {t tk : TA} {ta : TE} {gV : List V → List V → List V}
theorem run_mk {pins : List (Addr × Obj)} {σ : L2.St} {H : Hp} {s : Shared} {Q : VK} {us ws : List Value} {vs zs : List V} (M : Mk X.K C f) (F : FnG X.prog X.w X.K X.mg X.base k f ps sp) (hgu : X.A.guards = some []) (hr : Room (k + 1) X.A) (hb : KB X.K (fdOf X.K f) ps (n + 1) ks gV) (hx : PassG X σ (E σ))
    (I : Inv X pins σ H s) (r : Vals vs us) (rz : Vals zs ws) (l1 : vs.length = n) (l2 : zs.length = ks.length) (h : MakeP C sp (fun x => gV (x :: vs) zs) H Q (E σ)) : wpAny (model X.prog X.w) X.A (call (.ref C) us (ks.zip ws)) (EP X pins σ Q) X.xe s := by
  obtain ⟨g, hb⟩ := hb
  exact run_makeG M F hgu hr hx I (fun y => gV (y :: vs) zs) (fun y => g (y :: us) ws) (fun y s' KX => hb.to s' (Value.ref y :: us) ws KX (congrArg Nat.succ (r.length.symm.trans l1)) (rz.length.symm.trans l2)) (fun y => hb.rel (.cons (show L2.RelV (.ref y) (.ref y) from rfl) r) rz) h
/-- C(e, .., k = v, ..) -/
theorem ge_makeN (M : Mk X.K C f) (F : FnG X.prog X.w X.K X.mg X.base k f ps sp) (hgu : X.A.guards = some []) (hr : Room (k + 1) X.A) (hg : Gl X x) (hm : X.mg x = some (.ref C)) (hb : KB X.K (fdOf X.K f) ps (n + 1) ks gV) (hx : ∀ σ, PassG X σ (E σ)) (ha : PA X (e :: es) t) (hkw : PK X kws tk)
    (hdb : (x == ("__debug__" : Str)) = false := by decide) (hall : (backToKw pos (keywordEach kws X.env)).all (·.1.isSome) = true := by rfl) (hks : (backToKw pos (keywordEach kws X.env)).filterMap (·.1) = ks := by rfl)
    (he : starEach (e :: es) X.env = (false, eval e X.env) :: starEach es X.env := by rfl)
    (hpl : ((backTo pos (starEach (e :: es) X.env)).any (·.1) || (backToKw pos (keywordEach kws X.env)).any (·.1.isNone)) = false := by rfl) :
    PE X (.Call (.Name x p) (e :: es) kws pos) (gMakeN C n ks.length sp gV E t tk) := by
  refine ⟨fun pins s σ H Q I h => ?_⟩
  refine wpAny_Call_Name_kw (ld_glob I hg hm ?_ hdb)
  refine PySem.W.callWith_KW (h₀ := X.base) I.ok.mod.kin M.kp hall (thn (ha.run pos pins s σ H _ I h) fun us s1 ⟨vs, H1, I1, r, q⟩ => ?_) hpl he
  refine thn (hkw.run pos pins s1 σ H1 _ I1 q) fun ws s2 ⟨zs, H2, I2, rz, l1, l2, q2⟩ => ⟨I2.kIn, ?_⟩
  rw [hks]
  exact run_mk M F hgu hr hb (hx σ) I2 r rz l1 l2 q2
theorem se_methN {σ : L2.St} {H : Hp} {Q : VK} {j : Nat} (h : ta σ H fun x H1 => MethP C m x H1 (t σ H1 fun vs H2 => tk σ H2 fun zs H3 => vs.length = n ∧ zs.length = j ∧ sp (gV (x :: vs) zs) H3 Q (E σ))) : gMethN C m n j sp gV E ta t tk σ H Q := h
theorem se_makeN {σ : L2.St} {H : Hp} {Q : VK} {j : Nat} (h : t σ H fun vs H1 => tk σ H1 fun zs H2 => vs.length = n ∧ zs.length = j ∧ MakeP C sp (fun x => gV (x :: vs) zs) H2 Q (E σ)) : gMakeN C n j sp gV E t tk σ H Q := h
end
def insB (n : Str) (K : PySem.W.Frag) : Bool := He.eqO (PySem.W.findIn K (.ref (He.ga K n)) "__class__") (some (some (.builtin "object.__class__"))) && (He.eqO (PySem.W.specialIn K (.builtin "object.__class__") "__get__") (some (some (.builtin "getset_descriptor.__get__"))) && (eqB (PySem.W.takesIn K (.builtin "object.__class__")) (some true) && eqB (PySem.W.mroIn K (He.ga K n) (.type "object")) (some true)))
theorem ins_ok {K : PySem.W.Frag} {n : Str} (c : Cls K (He.ga K n)) (h : insB n K = true) : InsC K (He.ga K n) := by
  obtain ⟨a, h⟩ := He.ba h
  obtain ⟨b, h⟩ := He.ba h
  obtain ⟨d, e⟩ := He.ba h
  exact ⟨c, He.eqO_ok a, He.eqO_ok b, of_decide_eq_true d, of_decide_eq_true e⟩
def pcB (n : Str) (fl : List Str) (K : PySem.W.Frag) : Bool := fl.all fun f => (He.Fa.noat n f).ok K
theorem pc_ok {K : PySem.W.Frag} {n : Str} {fl : List Str} (c : Cls K (He.ga K n)) (h : pcB n fl K = true) : PC K (He.ga K n) fl := ⟨c, fun f hf => He.noat_ok (List.all_eq_true.mp h f hf)⟩
def neB (n : Str) (K : PySem.W.Frag) : Bool := He.eqO (PySem.W.findIn K (.ref (He.ga K n)) "__ne__") (some (some (.builtin "object.__ne__")))
theorem eqc_ok {K : PySem.W.Frag} {n : Str} {f : Addr} (i : InsC K (He.ga K n)) (m : Meth K (He.ga K n) "__eq__" f) (h : neB n K = true) : EqC K (He.ga K n) f := ⟨m.at_, m.fn, He.eqO_ok h, i.hm⟩
def nfB (n : Str) (K : PySem.W.Frag) : Bool := seven.all fun t => PySem.W.notFirst K (He.ga K n) (.type t)
def nfC (n x : Str) (K : PySem.W.Frag) : Bool := PySem.W.notFirst K (He.ga K n) (.ref (He.ga K x))
/-- no kit type stands above the class -/
def sbB (n : Str) (K : PySem.W.Frag) : Bool := seven.all fun t => eqB (PySem.W.subIn K (.ref (He.ga K n)) (.type t)) (some false)
def kbB (n : Str) (K : PySem.W.Frag) : Bool := seven.all fun t => eqB (PySem.W.kitOne K (.type t) (.ref (He.ga K n))) (some false)
def kiB (x n : Str) (b : Bool) (K : PySem.W.Frag) : Bool := eqB (PySem.W.kitOne K (.ref (He.ga K x)) (.ref (He.ga K n))) (some b)
inductive RFmt : V → Hp → VK → Prop
  | str {z : Str} {H : Hp} {Q : VK} : z.length ≤ 1000000 → Q (.str z) H → RFmt (.str z) H Q
  | int {i : Int} {H : Hp} {Q : VK} : i.natAbs.log2 < 1920 → Q (.str (toString i)) H → RFmt (.int i) H Q
def tFmtU (te : TE) : TE := fun σ H Q => te σ H fun x H1 => RFmt x H1 Q
theorem sj_nil {σ : L2.St} {H : Hp} {acc : Str} {Q : Str → Hp → Prop} (h : Q acc H) : tJs [] acc σ H Q := h
theorem sj_cons {σ : L2.St} {H : Hp} {acc : Str} {t : TE} {ts : List TE} {Q : Str → Hp → Prop} (h : t σ H fun x H1 => ∃ y : Str, x = .str y ∧ (acc ++ y).length ≤ sizeLine ∧ tJs ts (acc ++ y) σ H1 Q) : tJs (t :: ts) acc σ H Q := h
theorem js_mk {acc z : Str} {P : Str → Prop} (hl : acc.length + z.length ≤ 1000000) (q : P z) : ∃ y : Str, V.str z = .str y ∧ (acc ++ y).length ≤ sizeLine ∧ P y := ⟨z, rfl, small_ok (by rw [len_app]; exact hl), q⟩
theorem se_fmt {te : TE} {σ : L2.St} {H : Hp} {Q : VK} (h : te σ H fun x H1 => RFmt x H1 Q) : tFmtU te σ H Q := h
end Wk
set_option maxRecDepth 100000
set_option maxHeartbeats 4000000
namespace Wk
open PySem PySem.Spec PyProof.Rows L2
def tTryA (tb : WX → TS) (w : Ends → WX) : TS := fun D σ H => tb (w D) D σ H
section
variable {K : PySem.W.Frag} {σ : L2.St} {H : Hp} {Q : VK} {D : Ends} {tb : WX → TS} {w : Ends → WX} {cls : Value} {d : Option Addr} {c : Value} {i : Nat} {ts : Addr → Value → Option Addr → TS} {Wr : WX}
theorem st_try (h : tb (w D) D σ H) : tTryA tb w D σ H := h
end
def ByP (K : PySem.W.Frag) (f : Str) (a : Addr) (cls : Value) (d : Option Addr) (x : V) (H : Hp) (Q : VK) : Prop := x = .ref a ∧ ∃ (C dd : Addr) (v : V), cls = .ref C ∧ ExcC K C ∧ PySem.W.findIn K (.ref C) f = some none ∧ d = some dd ∧ H dd = some (.xd [(f, v)]) ∧ Q v H
def tByX (K : PySem.W.Frag) (f : Str) (a : Addr) (cls : Value) (d : Option Addr) (te : TE) : TE := fun σ H Q => te σ H fun x H1 => ByP K f a cls d x H1 Q
section
variable {K : PySem.W.Frag} {σ : L2.St} {H : Hp} {Q : VK} {te : TE} {f : Str} {a : Addr} {cls : Value} {d : Option Addr}
theorem se_by (h : te σ H fun x H1 => ByP K f a cls d x H1 Q) : tByX K f a cls d te σ H Q := h
end
end Wk
set_option maxRecDepth 100000
set_option maxHeartbeats 4000000
namespace Wk
open PySem PySem.Spec PyProof.Rows L2
section
variable {K : PySem.W.Frag} {σ : L2.St} {H : Hp} {ta tl : TA} {te : TE} {R : It → Hp → Prop} {a b : Addr} {xs ys : List V}
theorem it_zip (h : ta σ H fun vs H1 => ∃ a b xs ys, vs = [.ref a, .ref b] ∧ SqL K H1 a xs ∧ SqL K H1 b ys ∧ R (Itz K a b) H1) : iZip K ta σ H R := h
theorem zip_mk {P : Addr → Addr → Prop} (h1 : H a = some (.lst xs)) (h2 : H b = some (.lst ys)) (q : P a b) : ∃ a' b' xs ys, [V.ref a, V.ref b] = [.ref a', .ref b'] ∧ SqL K H a' xs ∧ SqL K H b' ys ∧ P a' b' := ⟨a, b, xs, ys, rfl, SqL.of h1, SqL.of h2, q⟩
theorem it_enum (h : ta σ H fun vs H1 => ∃ a xs, vs = [.ref a] ∧ SqL K H1 a xs ∧ R (Ite K a) H1) : iEnum K ta σ H R := h
theorem enum_mk {P : Addr → Prop} (h1 : H a = some (.lst xs)) (q : P a) : ∃ a' xs, [V.ref a] = [.ref a'] ∧ SqL K H a' xs ∧ P a' := ⟨a, xs, rfl, SqL.of h1, q⟩
theorem rne_same {z : Str} {Q : VK} (q : Q (.bl false) H) : REq true (.str z) (.str z) H Q := rne_str (by rw [decide_eq_true rfl]; exact q)
theorem req_same {z : Str} {Q : VK} (q : Q (.bl true) H) : REq false (.str z) (.str z) H Q := req_str (by rw [decide_eq_true rfl]; exact q)
theorem it_tup (h : te σ H fun x H1 => ∃ a, x = .ref a ∧ (∃ xs, SqT K H1 a xs) ∧ R (Itt K a) H1) : iTup K te σ H R := h
theorem tupI_mk {P : Addr → Prop} (h : H a = some (.tup xs)) (q : P a) : ∃ b, V.ref a = .ref b ∧ (∃ xs, SqT K H b xs) ∧ P b := ⟨a, rfl, ⟨xs, SqT.of h⟩, q⟩
def tagV : V → Nat
  | .non => 0
  | .bl false => 1
  | .bl true => 2
  | .int _ => 3
  | .str _ => 4
  | .byt _ => 5
  | .flt _ => 6
  | .ref _ => 7
  | .ty _ => 8
theorem if_tagF {x y : V} {A B : Prop} (e : (tagV x == tagV y) = false) (h : B) : if decide (x = y) = true then A else B := by
  rw [if_neg (by
    intro q
    rw [of_decide_eq_true q] at e
    simp at e)]
  exact h
theorem if_tagN {x y : V} {A B : Prop} (e : (tagV x == tagV y) = false) (h : A) : if (!decide (x = y)) = true then A else B := by
  have : decide (x = y) = false := decide_eq_false fun q => by
    rw [q] at e
    simp at e
  rw [this]
  exact h
theorem if_kT {k : Knd} {n : String} {A B : Prop} (e : k.is n = true) (h : A) : if k.is n = true then A else B := by rw [if_pos e]; exact h
theorem if_kF {k : Knd} {n : String} {A B : Prop} (e : k.is n = false) (h : B) : if k.is n = true then A else B := by rw [if_neg (by rw [e]; decide)]; exact h
theorem if_nkT {k : Knd} {n : String} {A B : Prop} (e : k.is n = true) (h : B) : if (!k.is n) = true then A else B := by rw [e]; exact h
theorem if_nkF {k : Knd} {n : String} {A B : Prop} (e : k.is n = false) (h : A) : if (!k.is n) = true then A else B := by rw [e]; exact h
theorem if_notT {A B : Prop} (h : B) : if (!true) = true then A else B := h
theorem if_notF {A B : Prop} (h : A) : if (!false) = true then A else B := h
end
section
variable {J : It} {n : Nat} {G : Hp → Prop} {Y : Nat → Hp → V → Hp → Prop} {g : TG} {tb : TS} {D : Ends} {σ : L2.St} {H D0 : Hp} {R0 : Cells} {tt : TT} {te : TE} {vs : List Nat} {Q : VK} {K : PySem.W.Frag} {a b : Addr} {xs ys : List V}
theorem for_enum (I : Nat → L2.St → Cells → Hp → Prop) (hi : HI H R0 D0) (h0 : I 0 σ R0 D0) (hl : ∀ i σ R Dd, I i σ R Dd → Dd a = some (.lst xs))
    (hs : ∀ (i : Nat) x T σ R Dd Dd' H, xs[i]? = some x → HI H R Dd' → Ex Dd Dd' → Dd' T = some (.tup [.int i, x]) → I i σ R Dd → g (.ref T) σ H fun σ2 H2 => tb { D with nx := NX I (i + 1), ct := NX I (i + 1), bk := D.nx } σ2 H2)
    (hd : ∀ σ R Dd H, HI H R Dd → I xs.length σ R Dd → D.nx σ H) : ForK (Ite K a) g tb D σ H :=
  for_hi walk_enum I hi h0 (fun i σ R Dd H _ q p => SqL.of (q.dat (hl i σ R Dd p))) (fun i v σ R Dd H H' hn1 hi1 b y => by
    obtain ⟨T, x, z, rfl, hT, rfl, e1, e2⟩ := y
    cases e1
    exact hs i z T σ R Dd _ _ e2 (hi1.newD hT) (Ex.new (hi1.free hT)) upd_same b) hd
theorem for_tup (I : Nat → L2.St → Cells → Hp → Prop) (hi : HI H R0 D0) (h0 : I 0 σ R0 D0) (hl : ∀ i σ R Dd, I i σ R Dd → Dd a = some (.tup xs))
    (hs : ∀ (i : Nat) x σ R Dd H, xs[i]? = some x → HI H R Dd → I i σ R Dd → g x σ H fun σ2 H2 => tb { D with nx := NX I (i + 1), ct := NX I (i + 1), bk := D.nx } σ2 H2) (hd : ∀ σ R Dd H, HI H R Dd → I xs.length σ R Dd → D.nx σ H) : ForK (Itt K a) g tb D σ H :=
  for_hi walk_tup I hi h0 (fun i σ R Dd H _ q p => SqT.of (q.dat (hl i σ R Dd p))) (fun i x σ R Dd H H' hn a b y => by
    obtain ⟨rfl, y⟩ := y
    exact hs i x σ R Dd H' y a b) hd
theorem lc_tup (I : Nat → List V → Cells → Hp → Prop) (hi : HI H R0 D0) (h0 : I 0 [] R0 D0) (hl : ∀ i acc R Dd, I i acc R Dd → Dd a = some (.tup xs))
    (hs : ∀ L i acc x R Dd H, xs[i]? = some x → HI H ((L, .lst acc) :: R) Dd → I i acc R Dd → acc.length ≤ i → g x (wipe σ vs) H fun σ2 H2 => wipe σ2 vs = wipe σ vs ∧ tt σ2 H2 fun b H3 => if b = true then te σ2 H3 (LE L I (i + 1)) else PW' L I (i + 1) H3)
    (hd : ∀ L acc R Dd H, HI H ((L, .lst acc) :: R) Dd → I xs.length acc R Dd → acc.length ≤ xs.length → Q (.ref L) H) : LcK (Itt K a) g tt te vs σ H Q :=
  lc_hi walk_tup I hi h0 (fun i acc R Dd H _ q p => SqT.of (q.dat (hl i acc R Dd p))) (fun L i acc x R Dd H H' hn a b c y => by
    obtain ⟨rfl, y⟩ := y
    exact hs L i acc x R Dd H' y a b c) hd
end
theorem atI_mapI {α β : Type} {f : α → β} {xs : List α} {i : Int} {x : α} (h0 : 0 ≤ i) (h : xs[i.toNat]? = some x) : atI (xs.map f) i = some (f x) := by
  rw [atI_ofI h0, List.getElem?_map, h]
  rfl
theorem HI.sublist {H D : Hp} {R R' : Cells} (h : HI H R D) (s : R'.Sublist R) : HI H R' D := ⟨(s.map _).nodup h.nd, fun p hp => h.cell p (s.subset hp), h.sub⟩
theorem HI.fr1 {H D : Hp} {R : Cells} {a : Addr} {o : HO} (h : HI H ((a, o) :: R) D) : ∃ D', HI H R D' ∧ Ex D D' ∧ D' a = some o := ⟨_, h.freeze, h.freezeX, upd_same⟩
end Wk
set_option maxRecDepth 100000
set_option maxHeartbeats 4000000
namespace Wk
open PySem PySem.Spec PyProof.Rows L2
/-- the class's name as repr shows it -/
def exHd (K : PySem.W.Frag) (C : Addr) : Str := match K.lookup C with
  | some ⟨_, _, .cls cd, _⟩ => excReprHead cd.name.toString
  | _ => ""
/-- what the written part says of the class, so that repr may show its instances -/
structure ExQ (K : PySem.W.Frag) (C : Addr) : Prop where
  o : OexC K C
  hr : PySem.W.findIn K (.ref C) "__repr__" = some (some (.builtin "BaseException.__repr__"))
  hl : (exHd K C).length ≤ 100
section
variable {prog : Program} {w : World} {A : Around} {E : Value → Shared → Prop} {s : Shared} {K : PySem.W.Frag} {C e t1 : Addr} {ox : Obj} {od : Option Obj} {m : Str} {tk : Tok}
open PySem.W PySem.Calls Builtin Builtin.BaseException Builtin.Exceptions
theorem csibBy {M : Model} {last : Value → List Value → Sem Value} {self : Value} {name : PySem.Str} {id : String} {Q : Option Value → Shared → Prop} (sp : Looks M s.heap (specialOf self name) (some (.builtin id))) (hb : bindSpecial (.builtin id) self = pure (.builtin id, [self]))
    (hc : wpAny M A (last (.builtin id) [self]) (fun v => Q (some v)) E s) : wpAny M A (callSpecialIfBoundBy? last self name) Q E s := by
  simp only [callSpecialIfBoundBy?, bindSpecialIfBound?]
  refine wpAny_holding (wpAny_bind (wpAny_bind (sp.here ?_)))
  refine wpAny_bind (wpAny_askSetting (wpAny_ite ?_))
  have fin : wpAny M A (last (.builtin id) [self] >>= fun v => pure (some v)) Q E s := wpAny_bind (wpAny_mono hc (fun v s' h' => wpAny_pure h') fun _ _ h' => h')
  split
  · exact wpAny_bind (wpAny_of_eq hb (wpAny_pure (by exact fin)))
  · exact wpAny_tryCatch (wpAny_bind (wpAny_of_eq hb (wpAny_pure (by exact fin))))
/-- an exception of the class at C, its args one text -/
structure XAt (K : PySem.W.Frag) (C : Addr) (h : Heap) (e : Addr) (m : Str) (tk : Tok) : Prop where
  q : ExQ K C
  k : K.In h
  i : ∃ t1 d, h.get? e = some ({ cls := .ref C, dict := d, data := .fields #[.ref t1, .none, .none, .none, .bool false, .none] } : Obj) ∧ h.TupAt t1 [.str m tk]
theorem XAt.keeps {h h' : Heap} (x : XAt K C h e m tk) (k : ∀ b o, h.get? b = some o → h'.get? b = some o) : XAt K C h' e m tk := by
  obtain ⟨q, X, t1, d, e1, e2⟩ := x
  exact ⟨q, X.keeps k, t1, d, k _ _ e1, e2.keeps k⟩
theorem XAt.type {M : Model} {h : Heap} (x : XAt K C h e m tk) : Looks M h (typeOf (.ref e)) (.ref C) := by
  obtain ⟨q, X, t1, d, e1, e2⟩ := x
  exact (Looks.ld e1).andThen .now
theorem XAt.sub {M : Model} {h : Heap} (x : XAt K C h e m tk) : Looks M h (isInstance (.ref e) (.type "BaseException")) true := x.type.andThen (looks_subIn x.k x.q.o.exC)
theorem bexc_bind (self : Value) : bindSpecial (.builtin "BaseException.__repr__") self = pure (.builtin "BaseException.__repr__", [self]) := by
  rfl
theorem XAt.hd {h : Heap} (x : XAt K C h e m tk) : ∃ cd, PySem.W.clsIn K C = some cd ∧ exHd K C = excReprHead cd.name.toString := by
  obtain ⟨q, X, t1, d, e1, ot, n, e2, e3, e4⟩ := id x
  obtain ⟨nm, qq, N, bs, bm, sn, sub, ab, col, dd, k0, k1, k2, k3, k5, hC, hbm⟩ := q.o.cls
  refine ⟨{ name := nm, bases := bs, mro := .ref C :: bm, ns := N, qualname := qq, hasDict := true, slotNames := sn, subclasses := sub, abstract := ab, collection := col, hasDel := false }, by unfold PySem.W.clsIn; rw [hC] <;> rfl, ?_⟩
  unfold exHd
  rw [hC]
theorem xat_name {M : Model} {Q : String → Shared → Prop} {cd : ClassData} (x : XAt K C s.heap e m tk) (hc : PySem.W.clsIn K C = some cd) (hq : Q cd.name.toString s) : wpAny M A (typeNameOfWhole (.ref e)) Q E s := by
  unfold typeNameOfWhole shownTypeOf
  refine wpAny_bind (wpAny_bind (x.type.here ?_))
  have ne : (Value.ref C == Value.type "builtin_function_or_method") = false := rfl
  simp only [ne, Bool.false_eq_true, if_false]
  refine wpAny_pure ?_
  unfold typeNameWhole
  refine wpAny_bind ((looks_clsIn x.k hc).here ?_)
  exact wpAny_pure hq
theorem xat_args {M : Model} {Q : Value × List Value → Shared → Prop} (x : XAt K C s.heap e m tk) (hq : ∀ t1, Q (.ref t1, [.str m tk]) s) : wpAny M A (bexcArgs (.ref e)) Q E s := by
  obtain ⟨q, X, t1, d, e1, ot, n, e2, e3, e4⟩ := id x
  unfold bexcArgs
  refine wpAny_bind (wpAny_field e1 rfl (x := .ref t1) rfl (wpAny_bind (wpAny_seqItems e2 e4 ?_)))
  exact wpAny_pure (hq t1)
theorem xat_body (b : Nat) {Q : Fin → Shared → Prop} (x : XAt K C s.heap e m tk)
    (hq : Q (.done (.ret (.str (exHd K C ++ "(" ++ reprText m ++ ")") (s.toks + 1)))) { s with toks := s.toks + 1 + 1 }) (hsz : b + (exHd K C ++ "(" ++ reprText m ++ ")").length ≤ sizeLine) :
    wpAny (model prog w) A (Builtin.bexcReprAt b ⟨[.ref e], []⟩) Q E s := by
  obtain ⟨cd, hc, hd⟩ := x.hd
  rw [hd] at hq hsz
  have e1 : b + (Str.ofString ((cd.name.toString.cutAt '.').getLastD "") ++ Str.ofString "(" ++ reprText m ++ Str.ofString ")").length ≤ sizeLine := hsz
  have hsz2 : (Str.ofString ((cd.name.toString.cutAt '.').getLastD "") ++ Str.ofString "(" ++ reprText m ++ Str.ofString ")").length ≤ sizeLine := Nat.le_trans (Nat.le_add_left _ b) e1
  have eP : (Str.ofString "(").length = 1 := by rw [PySem.ofString_length]; rfl
  rw [strLen_append, strLen_append, strLen_append, eP] at e1
  have hsz1 : (reprText m).length ≤ sizeLine := by omega
  have hpile : b + ((Str.ofString ((cd.name.toString.cutAt '.').getLastD "")).length + 1) ≤ sizeLine := by omega
  unfold Builtin.bexcReprAt
  repeat (first | with_reducible refine xat_name x hc ?_ | (with_reducible refine xat_args x ?_; intro t1) | rw [pyReprUnder_leaf (v := .str m tk) hpile (by intro a; nofun)] | with_reducible refine wpAny_pyRepr_str ?_ | wp_step)
  exact hq
theorem xat_under {b : Nat} {Q : Str → Shared → Prop} (hu : A.units < cLine) (x : XAt K C s.heap e m tk)
    (hq : Q (exHd K C ++ "(" ++ reprText m ++ ")") { s with toks := s.toks + 1 + 1 }) (hsz : b + (exHd K C ++ "(" ++ reprText m ++ ")").length ≤ sizeLine) : wpAny (model prog w) A (pyReprUnder b (.ref e)) Q E s := by
  refine wpAny_pyReprUnder_ref (by omega) ?_
  unfold pyReprObjUnder pyReprObjBy
  refine wpAny_bind (wpAny_cRoomFor hu ?_)
  have sp : ∀ M : Model, Looks M s.heap (specialOf (.ref e) "__repr__") (some (.builtin "BaseException.__repr__")) := fun M => x.type.andThen (looks_findIn x.k x.q.hr)
  refine wpAny_bind ((sp _).here ?_)
  refine wpAny_bind (csibBy (sp _) (bexc_bind _) ?_)
  show wpAny _ _ (call (.builtin "BaseException.__repr__.under") [.ref e, rawInt b]) _ _ _
  refine wpAny_call (codeAny_call_builtin F.plain_bexc_repr_under F.entry_bexc_repr_under ?_)
  rw [F.check_bexc_repr_under]
  refine wpAny_pure ?_
  show wpAny _ _ (reprTwin "BaseException.__repr__" bexcReprAt ⟨[.ref e, rawInt b], []⟩) _ _ _
  rw [reprTwin_eq]
  refine wpAny_bind (@check_slot (model prog w) _ _ s "BaseException.__repr__" "BaseException" "__repr__" (.ref e) [] [] _ (by decide +kernel) (by decide +kernel) x.sub (F.args_bexc_repr _) ?_)
  refine xat_body b x ?_ hsz
  refine wpAny_bind (wpAny_isInstance (T := "str") (b := true) rfl isSubtype_str_str ?_)
  exact wpAny_pure ⟨_, _, rfl, hq⟩
end
end Wk
set_option maxRecDepth 100000
set_option maxHeartbeats 4000000
namespace Wk
open PySem PySem.Spec PyProof.Rows L2 PySem.NumText
abbrev tl' (z : Str) : List Nat := z.cps.toList
theorem sIx_le' (n d : Nat) (k : Nat) : HT.sIx n d (some (k : Int)) = min k n := HT.sIx_nat n d k
theorem cut_take (z : Str) (k : Nat) : tl' (cutS z none (some (k : Int))) = (tl' z).take k := by
  have hl : z.cps.toList.length = z.length := rfl
  show ((z.cps.toList.drop (HT.sIx z.length 0 none)).take (HT.sIx z.length z.length (some (k : Int)) - HT.sIx z.length 0 none)) = z.cps.toList.take k
  rw [sIx_le', HT.sIx_none, List.drop_zero, Nat.sub_zero]
  by_cases h : k ≤ z.length
  · rw [Nat.min_eq_left h]
  · rw [Nat.min_eq_right (by omega), List.take_of_length_le (by rw [hl]; omega), List.take_of_length_le (by rw [hl]; omega)]
/-- a leading minus -/
def neg (l : List Nat) : Bool := decide (l.head? = some 45)
instance : DecidablePred AllDigits := fun l => inferInstanceAs (Decidable (∀ c ∈ l, 48 ≤ c ∧ c ≤ 57))
end Wk
set_option maxRecDepth 100000
set_option maxHeartbeats 4000000
namespace Wk
open PySem PySem.Spec PyProof.Rows L2
def LP (P : Nat → Prop) (z : Str) : Prop := ∀ c ∈ z.cps.toList, P c
section
variable {P : Nat → Prop}
theorem LP.app {a b : Str} (h : LP P a) (k : LP P b) : LP P (a ++ b) := fun c hc => by
  rw [tl_app] at hc
  rcases List.mem_append.mp hc with h1 | h1
  · exact h c h1
  · exact k c h1
theorem LP.cut {z : Str} (h : LP P z) (lo hi : Option Int) : LP P (cutS z lo hi) := fun c hc => by
  unfold cutS at hc
  simp only at hc
  exact h c (List.mem_of_mem_drop (List.mem_of_mem_take (by simpa using hc)))
theorem LP.one {z : Str} {c : Nat} (h : LP P z) (m : c ∈ z.cps.toList) : LP P ⟨#[c]⟩ := fun d hd => by
  simp at hd
  rw [hd]
  exact h c m
def OnesP (P : Nat → Prop) (ys : List Str) : Prop := ∀ y ∈ ys, y.length = 1 ∧ LP P y
theorem OnesP.sum : ∀ {ys : List Str}, OnesP P ys → (ys.map (·.length)).sum = ys.length
  | [], _ => rfl
  | y :: ys, h => by
    have ih := OnesP.sum (ys := ys) fun z hz => h z (List.mem_cons_of_mem _ hz)
    have e := (h y (List.mem_cons_self ..)).1
    simp only [List.map_cons, List.sum_cons, List.length_cons, ih, e]
    omega
theorem OnesP.nil : OnesP P [] := fun y hy => by cases hy
theorem OnesP.snoc {ys : List Str} {z : Str} {c : Nat} (h : OnesP P ys) (hz : LP P z) (m : c ∈ z.cps.toList) : OnesP P (ys ++ [⟨#[c]⟩]) := fun y hy => by
  rcases List.mem_append.mp hy with h1 | h1
  · exact h y h1
  · rw [List.mem_singleton.mp h1]
    exact ⟨rfl, hz.one m⟩
theorem onesP_join : ∀ {ys : List Str}, OnesP P ys → (Txt.join "" ys).length = ys.length ∧ LP P (Txt.join "" ys)
  | [], _ => ⟨rfl, fun c hc => by simp [Txt.join, Builtin.Str.glued, Str.empty] at hc⟩
  | [y], h => by
    rw [TL.join_eq]
    show y.length = 1 ∧ LP P y
    exact h y (List.mem_cons_self ..)
  | x :: y :: r, h => by
    have ih := onesP_join (ys := y :: r) fun z hz => h z (List.mem_cons_of_mem _ hz)
    have hx := h x (List.mem_cons_self ..)
    rw [TL.join_eq] at ih ⊢
    show (x ++ "" ++ Str.join "" (y :: r)).length = _ ∧ LP P (x ++ "" ++ Str.join "" (y :: r))
    have e : (x ++ ("" : Str)) = x := PySem.Str.append_empty x
    rw [e, len_app, ih.1, hx.1]
    refine ⟨by simp only [List.length_cons]; omega, hx.2.app ih.2⟩
theorem len_tl (z : Str) : (tl' z).length = z.length := rfl
theorem cut_mid_len {z : Str} {a b : Int} (a0 : 0 ≤ a) (ab : a ≤ b) : ((cutS z (some a) (some b)).length : Int) ≤ b - a := by
  obtain ⟨m, rfl⟩ := Int.eq_ofNat_of_zero_le a0
  obtain ⟨n, rfl⟩ := Int.eq_ofNat_of_zero_le (Int.le_trans a0 ab)
  show (((z.cps.toList.drop (HT.sIx z.length 0 (some (m : Int)))).take (HT.sIx z.length z.length (some (n : Int)) - HT.sIx z.length 0 (some (m : Int)))).toArray.size : Int) ≤ (n : Int) - m
  rw [List.size_toArray, List.length_take, sIx_le', sIx_le']
  omega
theorem cut_to_len {z : Str} {k : Int} (k0 : 0 ≤ k) : ((cutS z none (some k)).length : Int) ≤ k ∧ (k ≤ z.length → ((cutS z none (some k)).length : Int) = k) := by
  obtain ⟨n, rfl⟩ := Int.eq_ofNat_of_zero_le k0
  have e := congrArg List.length (cut_take z n)
  rw [List.length_take, len_tl, len_tl] at e
  omega
/-- one more name -/
theorem names_snoc {P : Str → Prop} {ys : List Str} {y : Str} {j : Nat} (h : ∀ y ∈ ys, P y) (hl : ys.length = j) (hy : P y) : (∀ z ∈ ys ++ [y], P z) ∧ (ys ++ [y]).length = j + 1 := by
  refine ⟨fun z hz => ?_, by rw [List.length_append, hl]; rfl⟩
  rcases List.mem_append.mp hz with q | q
  · exact h z q
  · rw [List.mem_singleton.mp q]
    exact hy
theorem radd_p {a b : Str} {H : Hp} {Q : VK} (hl : a.length + b.length ≤ 1000000) (s1 : LP P a) (s2 : LP P b) (k : ∀ y, y.length = a.length + b.length → LP P y → Q (.str y) H) : RAdd (.str a) (.str b) H Q := RAdd.str (small_ok hl) (k _ (len_app ..) (s1.app s2))
end
inductive RSplit : V → List V → Hp → VK → Prop
  | mk {z y : Str} {H : Hp} {Q : VK} : (y.length == 0) = false → z.length + 2 ≤ 1000000 → AlD (.lst ((Txt.split z y).map V.str)) H Q → RSplit (.str z) [.str y] H Q
theorem mt_splitU {X : Cx} : MtR X "str.split" RSplit := by
  intro pins s σ H x xs v us Q I rx rs h
  cases h with
  | mk h1 h2 q => exact mt_split pins s σ H _ _ v us Q I rx rs ⟨_, _, rfl, rfl, h1, small_ok h2, q⟩
inductive RListO : List V → Hp → VK → Prop
  | l {p : Addr} {xs : List V} {H : Hp} {Q : VK} : H p = some (.lst xs) → AlD (.lst xs) H Q → RListO [.ref p] H Q
  | t {p : Addr} {xs : List V} {H : Hp} {Q : VK} : H p = some (.tup xs) → AlD (.lst xs) H Q → RListO [.ref p] H Q
theorem call_listU {X : Cx} : CallR X (.type "list") RListO := by
  intro pins s σ H xs us Q I r h
  cases h with
  | l e q => exact call_list_of pins s σ H _ us Q I r ⟨_, _, rfl, .inl (SqL.of e), q⟩
  | t e q => exact call_list_of pins s σ H _ us Q I r ⟨_, _, rfl, .inr (SqT.of e), q⟩
inductive RTupO : List V → Hp → VK → Prop
  | l {p : Addr} {xs : List V} {H : Hp} {Q : VK} : H p = some (.lst xs) → AlD (.tup xs) H Q → RTupO [.ref p] H Q
section
variable {K : PySem.W.Frag} {σ : L2.St} {H D : Hp} {R : Cells} {Q : VK} {p : Addr} {xs : List V} {v : V} {to : TE} {t : TA} {r : V → List V → Hp → VK → Prop} {T : String}
theorem se_bm (h : to σ H fun x H1 => tyV K T x H1 ∧ t σ H1 fun xs H2 => r x xs H2 Q) : tBM K T r to t σ H Q := h
theorem se_bm0 (h : to σ H fun x H1 => tyV K T x H1 ∧ r x [] H1 Q) : tBM0 K T r to σ H Q := h
theorem bm_ty {A : Prop} (e : H p = some (.lst xs)) (h : A) : tyV K "list" (.ref p) H ∧ A := ⟨.inl ⟨rfl, xs, SqL.of e⟩, h⟩
theorem app_now (hi : HI H ((p, .lst xs) :: R) D) (hl : xs.length < 1000000) (k : ∀ H', HI H' ((p, .lst (xs ++ [v])) :: R) D → Q .non H') : rAppend (.ref p) [v] H Q :=
  ⟨p, xs, v, rfl, rfl, hi.get (List.mem_cons_self ..), by rw [sizeLine_eq]; omega, k _ hi.set⟩
end
theorem call_tupU {X : Cx} : CallR X (.type "tuple") RTupO := by
  intro pins s σ H xs us Q I r h
  cases h with
  | l e q => exact call_tuple_of pins s σ H _ us Q I r ⟨_, _, rfl, .inl ⟨SqL.of e, q⟩⟩
theorem pop_now {H D : Hp} {R : Cells} {Q : VK} {p : Addr} {xs : List V} {i : Int} (hi : HI H ((p, .lst xs) :: R) D) (h0 : 0 ≤ i) (h1 : i < xs.length) (h2 : xs.length ≤ 1000000) (k : ∀ y H', xs[i.toNat]? = some y → HI H' ((p, .lst (xs.eraseIdx i.toNat)) :: R) D → Q y H') : rPopAt (.ref p) [.int i] H Q := by
  have e1 : ixN xs.length i = some i.toNat := by
    unfold ixN
    rw [if_pos h0, if_pos h1]
  have hn : i.toNat < xs.length := by omega
  exact ⟨p, xs, i, i.toNat, xs[i.toNat], rfl, rfl, hi.get (List.mem_cons_self ..), by omega, by omega, (ixN_seq e1).1, List.getElem?_eq_getElem hn, k _ _ (List.getElem?_eq_getElem hn) hi.set⟩
def NW (I : Nat → L2.St → Cells → Hp → Prop) (m : Nat) : L2.St → Hp → Prop := fun σ' H' => ∃ m' R' D', m' < m ∧ HI H' R' D' ∧ I m' σ' R' D'
theorem while_hi {c : TT} {tb : TS} {Ds : Ends} {σ : L2.St} {H D0 : Hp} {R0 : Cells} {m : Nat} (I : Nat → L2.St → Cells → Hp → Prop) (hi : HI H R0 D0) (h0 : I m σ R0 D0)
    (hs : ∀ m σ R Dd H, HI H R Dd → I m σ R Dd → c σ H fun b H1 => if b = true then (∃ N : L2.St → Hp → Prop, (∀ σ' H', N σ' H' → ∃ m', m' < m ∧ ∃ R D, HI H' R D ∧ I m' σ' R D) ∧ tb { Ds with nx := N, ct := N, bk := Ds.nx } σ H1) else Ds.nx σ H1) : tWhile c tb Ds σ H :=
  ⟨fun m σ H => ∃ R D, HI H R D ∧ I m σ R D, ⟨m, R0, D0, hi, h0⟩, fun m σ H ⟨R, D, a, b⟩ => hs m σ R D H a b⟩
inductive RListM : List V → Hp → VK → Prop
  | l {p : Addr} {xs : List V} {H : Hp} {Q : VK} : H p = some (.lst xs) → AlM (.lst xs) H Q → RListM [.ref p] H Q
theorem call_listUM {X : Cx} : CallR X (.type "list") RListM := by
  intro pins s σ H xs us Q I r h
  cases h with
  | l e q => exact call_list_of pins s σ H _ us Q I r ⟨_, _, rfl, .inl (SqL.of e), q⟩
end Wk
set_option maxRecDepth 100000
set_option maxHeartbeats 4000000
namespace Wk
open PySem PySem.Spec PyProof.Rows L2
theorem join_len (sep : Str) : ∀ ys : List Str, (Str.join sep ys).length ≤ (ys.map (·.length)).sum + ys.length * sep.length
  | [] => Nat.zero_le _
  | [y] => by
    show y.length ≤ _
    simp
  | x :: y :: r => by
    have ih := join_len sep (y :: r)
    show (x ++ sep ++ Str.join sep (y :: r)).length ≤ _
    rw [len_app, len_app]
    simp only [List.map_cons, List.sum_cons, List.length_cons, Nat.add_mul, Nat.one_mul] at ih ⊢
    omega
theorem repr_len {z : Str} (h : Sg z) : (reprText z).length ≤ 10 * z.length + 2 := PySem.StrLaws.reprText_len z fun c hc => by
  have := h c hc
  omega
end Wk
set_option maxRecDepth 100000
set_option maxHeartbeats 4000000
namespace Wk
open PySem PySem.Spec PyProof.Rows L2
structure Sm (d : PyData) (n k : Nat) : Prop where
  s : d.showable = true
  l : d.shown.length ≤ n
  d : d.depth ≤ k
theorem Sm.mono {d : PyData} {n k n' k' : Nat} (h : Sm d n k) (a : n ≤ n') (b : k ≤ k') : Sm d n' k' := ⟨h.s, Nat.le_trans h.l a, Nat.le_trans h.d b⟩
theorem Sm.non : Sm .none 4 0 := ⟨rfl, by decide +kernel, Nat.le_refl _⟩
theorem Sm.bl (b : Bool) : Sm (.bool b) 5 0 := by cases b <;> exact ⟨rfl, by decide +kernel, Nat.le_refl _⟩
theorem Sm.int {i : Int} (h : i.natAbs < 10 ^ 30) : Sm (.int i) 31 0 := ⟨decide_eq_true (log2_small (by omega)), (tst h).1, Nat.le_refl _⟩
theorem Sm.str {z : Str} (h : Sg z) : Sm (.str z) (10 * z.length + 2) 0 := ⟨by simp [PyData.showable], repr_len h, by simp [PyData.depth]⟩
theorem sm_all {n k : Nat} : ∀ {ds : List PyData}, (∀ d ∈ ds, Sm d n k) → PyData.showableAll ds = true ∧ (((PyData.shownAll ds).map (·.length)).sum ≤ n * ds.length ∧ (PyData.shownAll ds).length = ds.length) ∧ PyData.depthAll ds ≤ k
  | [], _ => ⟨rfl, ⟨Nat.zero_le _, rfl⟩, Nat.zero_le _⟩
  | d :: ds, h => by
    obtain ⟨a, ⟨b, c⟩, e⟩ := sm_all (ds := ds) fun x hx => h x (List.mem_cons_of_mem _ hx)
    obtain ⟨a1, b1, e1⟩ := h d (List.mem_cons_self ..)
    refine ⟨?_, ⟨?_, ?_⟩, ?_⟩
    · simp only [PyData.showableAll, a1, a, Bool.and_self]
    · simp only [PyData.shownAll, List.map_cons, List.sum_cons, List.length_cons, Nat.mul_succ]
      omega
    · simp only [PyData.shownAll, List.length_cons, c]
    · simp only [PyData.depthAll]
      omega
theorem Sm.list {n k : Nat} {ds : List PyData} (h : ∀ d ∈ ds, Sm d n k) : Sm (.list ds) (n * ds.length + 2 * ds.length + 3) (k + 1) := by
  obtain ⟨a, ⟨b, c⟩, e⟩ := sm_all h
  refine ⟨by simpa only [PyData.showable] using a, ?_, by simp only [PyData.depth]; omega⟩
  have jl := PySem.listText_len_le (PyData.shownAll ds)
  rw [c] at jl
  have e4 : (PyData.list ds).shown = PySem.listText (PyData.shownAll ds) := by simp only [PyData.shown]
  rw [e4]
  omega
theorem Sm.tuple {n k : Nat} {ds : List PyData} (h : ∀ d ∈ ds, Sm d n k) : Sm (.tuple ds) (n * ds.length + 2 * ds.length + 3) (k + 1) := by
  obtain ⟨a, ⟨b, c⟩, e⟩ := sm_all h
  refine ⟨by simpa only [PyData.showable] using a, ?_, by simp only [PyData.depth]; omega⟩
  have jl := join_len (Str.ofString ", ") (PyData.shownAll ds)
  have e1 : (Str.ofString ", ").length = 2 := rfl
  have e2 : (Str.ofString "(").length = 1 := rfl
  have e3 : (Str.ofString ")").length = 1 := rfl
  have e4 : (Str.ofString ",)").length = 2 := rfl
  rw [e1, c] at jl
  match ds, jl, b, c with
  | [], jl, b, c => exact Nat.le_trans (show (PyData.shown (.tuple [])).length ≤ 3 by decide +kernel) (by omega)
  | [x], jl, b, c =>
    have b' : x.shown.length ≤ n := by simpa [PyData.shownAll] using b
    show ((Str.ofString "(") ++ x.shown ++ (Str.ofString ",)")).length ≤ _
    rw [len_app, len_app, e2, e4]
    simp only [List.length_cons, List.length_nil]
    omega
  | x :: y :: r, jl, b, c =>
    show ((Str.ofString "(") ++ Str.join (Str.ofString ", ") (PyData.shownAll (x :: y :: r)) ++ (Str.ofString ")")).length ≤ _
    rw [len_app, len_app, e2, e3]
    omega
theorem line_ok {n : Nat} (h : n ≤ 16777216) : n ≤ sizeLine := by
  rw [sizeLine_eq]
  exact h
theorem repr_sm {H : Hp} {Q : VK} {x : V} {d : PyData} {n k : Nat} (h : Rep H x d) (s : Sm d n k) (hn : n ≤ 16777216) (hk : k ≤ 60) (q : Q (.str d.shown) H) : rRepr [x] H Q := ⟨x, d, rfl, h, s.s, line_ok (Nat.le_trans s.l hn), Nat.le_trans s.d hk, q⟩
end Wk
set_option maxRecDepth 100000
set_option maxHeartbeats 4000000
namespace Wk
open PySem PySem.Spec PyProof.Rows L2
inductive KT : Key → Str → Prop
  | int (i : Int) (h : i.natAbs.log2 < 1920) : KT (.inl i) (toString i)
  | str (x : Str) : KT (.inr x) (reprText x)
mutual
/-- what repr shows of v, and how deep it goes -/
inductive Shw (K : PySem.W.Frag) (H : Hp) : V → Str → Nat → Prop
  | non : Shw K H .non "None" 0
  | bl (b : Bool) : Shw K H (.bl b) (if b then "True" else "False") 0
  | int (i : Int) (h : i.natAbs.log2 < 1920) : Shw K H (.int i) (toString i) 0
  | str (x : Str) : Shw K H (.str x) (reprText x) 0
  | exc {a d C t1 : Addr} {z : Str} (e : H a = some (exq a C (some d) t1)) (e2 : H t1 = some (.tup [.str z])) (q : ExQ K C) : Shw K H (.ref a) (exHd K C ++ "(" ++ reprText z ++ ")") 1
  | lst {a : Addr} {vs : List V} {ts : List Str} {n : Nat} (e : H a = some (.lst vs)) (l : ShwL K H vs ts n) : Shw K H (.ref a) (listText ts) (n + 1)
  | tup {a : Addr} {vs : List V} {ts : List Str} {n : Nat} (e : H a = some (.tup vs)) (l : ShwL K H vs ts n) : Shw K H (.ref a) (tupleText ts) (n + 1)
  | dict {a : Addr} {kvs : List (Key × V)} {ts : List Str} {n : Nat} (e : H a = some (.dK kvs)) (l : ShwK K H kvs ts n) : Shw K H (.ref a) (dictText ts) (n + 1)
inductive ShwL (K : PySem.W.Frag) (H : Hp) : List V → List Str → Nat → Prop
  | nil : ShwL K H [] [] 0
  | cons {v : V} {vs : List V} {t : Str} {ts : List Str} {m n : Nat} (h : Shw K H v t m) (l : ShwL K H vs ts n) : ShwL K H (v :: vs) (t :: ts) (max m n)
inductive ShwK (K : PySem.W.Frag) (H : Hp) : List (Key × V) → List Str → Nat → Prop
  | nil : ShwK K H [] [] 0
  | cons {k : Key} {v : V} {kvs : List (Key × V)} {kt t : Str} {ts : List Str} {m n : Nat} (kk : KT k kt) (h : Shw K H v t m) (l : ShwK K H kvs ts n) : ShwK K H ((k, v) :: kvs) ((kt ++ ": " ++ t) :: ts) (max m n)
end
section
variable {K : PySem.W.Frag} {H H' : Hp}
mutual
theorem Shw.mono (x : Ex H H') : ∀ {v : V} {t : Str} {n : Nat}, Shw K H v t n → Shw K H' v t n
  | _, _, _, .non => .non
  | _, _, _, .bl b => .bl b
  | _, _, _, .int i h => .int i h
  | _, _, _, .str z => .str z
  | _, _, _, .exc e e2 q => .exc (x _ _ e) (x _ _ e2) q
  | _, _, _, .lst e l => .lst (x _ _ e) (ShwL.mono x l)
  | _, _, _, .tup e l => .tup (x _ _ e) (ShwL.mono x l)
  | _, _, _, .dict e l => .dict (x _ _ e) (ShwK.mono x l)
theorem ShwL.mono (x : Ex H H') : ∀ {v : List V} {t : List Str} {n : Nat}, ShwL K H v t n → ShwL K H' v t n
  | _, _, _, .nil => .nil
  | _, _, _, .cons h l => .cons (Shw.mono x h) (ShwL.mono x l)
theorem ShwK.mono (x : Ex H H') : ∀ {v : List (Key × V)} {t : List Str} {n : Nat}, ShwK K H v t n → ShwK K H' v t n
  | _, _, _, .nil => .nil
  | _, _, _, .cons kk h l => .cons kk (Shw.mono x h) (ShwK.mono x l)
end
theorem exq_is {a C t1 : Addr} {d : Option Addr} {o : HO} (h : H a = some o) (e : H a = some (exq a C d t1)) : ∃ φ, o = .ext φ := by
  rw [h] at e
  exact ⟨_, Option.some.inj e⟩
mutual
theorem Shw.det : ∀ {v : V} {t : Str} {n : Nat}, Shw K H v t n → ∀ {t' : Str} {n' : Nat}, Shw K H v t' n' → n = n'
  | _, _, _, .non, _, _, h => by cases h; rfl
  | _, _, _, .bl b, _, _, h => by cases h; rfl
  | _, _, _, .int i _, _, _, h => by cases h; rfl
  | _, _, _, .str z, _, _, h => by cases h; rfl
  | _, _, _, .exc e e2 q, _, _, h => by
    cases h with
    | exc f f2 g => rfl
    | lst f l => obtain ⟨_, z⟩ := exq_is f e; cases z
    | tup f l => obtain ⟨_, z⟩ := exq_is f e; cases z
    | dict f l => obtain ⟨_, z⟩ := exq_is f e; cases z
  | _, _, _, .lst e l, _, _, h => by
    cases h with
    | exc f f2 g => obtain ⟨_, z⟩ := exq_is e f; cases z
    | lst f l2 => rw [e] at f; cases f; rw [ShwL.det l l2]
    | tup f l => rw [e] at f; cases f
    | dict f l => rw [e] at f; cases f
  | _, _, _, .tup e l, _, _, h => by
    cases h with
    | exc f f2 g => obtain ⟨_, z⟩ := exq_is e f; cases z
    | lst f l2 => rw [e] at f; cases f
    | tup f l2 => rw [e] at f; cases f; rw [ShwL.det l l2]
    | dict f l => rw [e] at f; cases f
  | _, _, _, .dict e l, _, _, h => by
    cases h with
    | exc f f2 g => obtain ⟨_, z⟩ := exq_is e f; cases z
    | lst f l2 => rw [e] at f; cases f
    | tup f l2 => rw [e] at f; cases f
    | dict f l2 => rw [e] at f; cases f; rw [ShwK.det l l2]
theorem ShwL.det : ∀ {v : List V} {t : List Str} {n : Nat}, ShwL K H v t n → ∀ {t' : List Str} {n' : Nat}, ShwL K H v t' n' → n = n'
  | _, _, _, .nil, _, _, h => by cases h; rfl
  | _, _, _, .cons h l, _, _, h' => by
    cases h' with
    | cons h2 l2 => rw [Shw.det h h2, ShwL.det l l2]
theorem ShwK.det : ∀ {v : List (Key × V)} {t : List Str} {n : Nat}, ShwK K H v t n → ∀ {t' : List Str} {n' : Nat}, ShwK K H v t' n' → n = n'
  | _, _, _, .nil, _, _, h => by cases h; rfl
  | _, _, _, .cons kk h l, _, _, h' => by
    cases h' with
    | cons kk2 h2 l2 => rw [Shw.det h h2, ShwK.det l l2]
end
def AtMost (K : PySem.W.Frag) (H : Hp) (n : Nat) (as : List Addr) : Prop := ∀ b ∈ as, ∃ t m, Shw K H (.ref b) t m ∧ m ≤ n
theorem AtMost.mono' {n m : Nat} {as : List Addr} (h : AtMost K H n as) (l : n ≤ m) : AtMost K H m as := fun b hb => let ⟨t, k, a, c⟩ := h b hb; ⟨t, k, a, Nat.le_trans c l⟩
theorem AtMost.app {n : Nat} {as bs : List Addr} (h : AtMost K H n as) (g : AtMost K H n bs) : AtMost K H n (as ++ bs) := fun b hb => (List.mem_append.mp hb).elim (h b) (g b)
theorem AtMost.cons {n : Nat} {a : Addr} {as : List Addr} {t : Str} (h : AtMost K H n as) (s : Shw K H (.ref a) t (n + 1)) : AtMost K H (n + 1) (a :: as) := fun b hb => by
  rcases List.mem_cons.mp hb with e | hb
  · subst e
    exact ⟨t, _, s, Nat.le_refl _⟩
  · exact (h.mono' (Nat.le_succ n)) b hb
theorem AtMost.not {n : Nat} {a : Addr} {as : List Addr} {t : Str} (h : AtMost K H n as) (s : Shw K H (.ref a) t (n + 1)) : a ∉ as := fun hm => by
  obtain ⟨t', m, s', l⟩ := h a hm
  have := Shw.det s s'
  omega
end
section
variable {X : Cx} {pins : List (Addr × Obj)} {σ : L2.St} {H : Hp} {s : Shared}
theorem xat_of {e d C t1 : Addr} {z : Str} (I : Inv X pins σ H s) (e1 : H e = some (exq e C (some d) t1)) (e2 : H t1 = some (.tup [.str z])) (q : ExQ X.K C) : ∃ tk, XAt X.K C s.heap e z tk := by
  have g1 := exq_at I.hok e1
  obtain ⟨its, rv, ⟨o, ho, hc, n, hd⟩, _⟩ := I.tuple (SqT.of e2)
  cases rv with
  | @cons _ u _ us r1 r2 =>
    cases r2
    obtain ⟨tk, rfl⟩ := r1
    exact ⟨tk, q, I.kIn, t1, some d, g1, o, n, ho, hc, hd⟩
theorem key_k {as : List Addr} {h0 : Heap} {d : Nat} {k : Key} {u : Value} {kt : Str} (hk : keyIs k u = true) (kk : KT k kt) (hz : kt.length ≤ sizeLine) : ReprK X.prog X.w as h0 d u kt := by
  cases kk with
  | int i h =>
    obtain ⟨t, rfl⟩ := Value.isInt_shape (k := i) (v := u) hk
    exact .of_is (ReprIs.int t h) _ _ _
  | str x =>
    obtain ⟨t, rfl⟩ := Value.isStrOf_shape (x := x) (v := u) hk
    exact .of_is (ReprIs.str x t hz) _ _ _
theorem entries_more {prog : Program} {w : World} {h₀ : Heap} {as as' : List Addr} {d d' : Nat} (hsub : ∀ b ∈ as, b ∈ as') (hd : d ≤ d') : ∀ {es : List DictEntry} {ps : List Str}, ReprEntriesK prog w as h₀ d es ps → ReprEntriesK prog w as' h₀ d' es ps
  | _, _, .nil => .nil
  | _, _, .cons h1 h2 l => .cons ((h1.more hsub).level_le hd) ((h2.more hsub).level_le hd) (entries_more hsub hd l)
mutual
theorem Shw.k (I : Inv X pins σ H s) (hs : HasSys X.K) : ∀ {v : V} {t : Str} {n : Nat} {u : Value}, Shw X.K H v t n → RelV v u → t.length ≤ sizeLine → ∃ as, AtMost X.K H n as ∧ ReprK X.prog X.w as s.heap n u t
  | _, _, _, _, .non, r, _ => by
    cases r
    exact ⟨[], (fun _ h => nomatch h), .of_is ReprIs.none _ _ _⟩
  | _, _, _, _, .bl b, r, _ => by
    cases r
    exact ⟨[], (fun _ h => nomatch h), .of_is (ReprIs.bool b) _ _ _⟩
  | _, _, _, _, .int i hi, r, _ => by
    obtain ⟨t, rfl⟩ := r
    exact ⟨[], (fun _ h => nomatch h), .of_is (ReprIs.int t hi) _ _ _⟩
  | _, _, _, _, .str z, r, hz => by
    obtain ⟨t, rfl⟩ := r
    exact ⟨[], (fun _ h => nomatch h), .of_is (ReprIs.str z t hz) _ _ _⟩
  | _, _, _, _, .exc e e2 q, r, hz => by
    cases r
    obtain ⟨tk, x⟩ := xat_of I e e2 q
    exact ⟨[], (fun _ h => nomatch h), fun base hb A g E s' Q hg hcl hu hk0 hQ => xat_under (by omega) (x.keeps hk0) (hQ _ _ fun _ _ e => e) hb⟩
  | _, _, _, _, .lst e l, r, hz => by
    cases r
    have sh := Shw.lst e l
    obtain ⟨its, rv, ⟨o, n, ho, hc, _, hd⟩, _⟩ := I.list (SqL.of e)
    obtain ⟨as, hb, hk⟩ := ShwL.k I hs l rv (fun t ht => Nat.le_trans (listText_mem_le ht) hz)
    refine ⟨_ :: as, hb.cons sh, ?_⟩
    cases its with
    | nil =>
      cases rv
      cases l
      have e0 : listText [] = ("[]" : Str) := listText_nil
      rw [e0]
      exact ReprK.listEmpty ho hc hd
    | cons x l' => exact ReprK.list ho hc hd (hb.not sh) (by simpa using hk.length_eq) (fun i y e => hk.item i y (by simpa using e))
  | _, _, _, _, .tup e l, r, hz => by
    cases r
    have sh := Shw.tup e l
    obtain ⟨its, rv, ⟨o, ho, hc, n, hd⟩, _⟩ := I.tuple (SqT.of e)
    obtain ⟨as, hb, hk⟩ := ShwL.k I hs l rv (fun t ht => Nat.le_trans (tupleText_mem_le ht) hz)
    exact ⟨_ :: as, hb.cons sh, ReprK.tuple ho hc hd (hb.not sh) (by simpa using hk)⟩
  | _, _, _, _, .dict e l, r, hz => by
    cases r
    have sh := Shw.dict e l
    obtain ⟨_, hsys, vs, rv, o, es, ep, ho, hx, hd, _, hp, _⟩ := I.hok _ _ e
    obtain ⟨as, hb, hk⟩ := ShwK.k I hs l rv hp (fun t ht => Nat.le_trans (dictText_mem_le ht) hz)
    exact ⟨_ :: as, hb.cons sh, ReprK.dict ho hx.1 hd hsys (hb.not sh) hk⟩
theorem ShwL.k (I : Inv X pins σ H s) (hs : HasSys X.K) : ∀ {vs : List V} {ts : List Str} {n : Nat} {us : List Value}, ShwL X.K H vs ts n → Vals vs us → (∀ t ∈ ts, t.length ≤ sizeLine) → ∃ as, AtMost X.K H n as ∧ ReprAllK X.prog X.w as s.heap n us ts
  | _, _, _, _, .nil, r, _ => by
    cases r
    exact ⟨[], (fun _ h => nomatch h), .nil⟩
  | _, _, _, _, .cons h l, r, hz => by
    cases r with
    | cons r1 r2 =>
      obtain ⟨as, h1, k1⟩ := Shw.k I hs h r1 (hz _ (List.mem_cons_self ..))
      obtain ⟨bs, h2, k2⟩ := ShwL.k I hs l r2 fun t ht => hz t (List.mem_cons_of_mem _ ht)
      exact ⟨as ++ bs, (h1.mono' (Nat.le_max_left ..)).app (h2.mono' (Nat.le_max_right ..)), .cons ((k1.more fun b hb => List.mem_append_left _ hb).level_le (Nat.le_max_left _ _)) (k2.more_le (fun b hb => List.mem_append_right _ hb) (Nat.le_max_right _ _))⟩
theorem ShwK.k (I : Inv X pins σ H s) (hs : HasSys X.K) : ∀ {kvs : List (Key × V)} {ts : List Str} {n : Nat} {us : List (Key × Value)} {es : List DictEntry}, ShwK X.K H kvs ts n → KV kvs us → Pairs (mixKind X.prog X.w) es us → (∀ t ∈ ts, t.length ≤ sizeLine) →
    ∃ as, AtMost X.K H n as ∧ ReprEntriesK X.prog X.w as s.heap n es ts
  | _, _, _, _, _, .nil, r, p, _ => by
    cases r
    cases p
    exact ⟨[], (fun _ h => nomatch h), .nil⟩
  | _, _, _, _, _, .cons (t := t) (kt := kt) kk h l, r, p, hz => by
    cases r with
    | cons r1 r2 =>
      cases p with
      | cons p1 p2 p3 =>
        obtain ⟨e1, e2⟩ := r1
        have hl := hz _ (List.mem_cons_self ..)
        rw [len_app, len_app] at hl
        obtain ⟨bs, h2, k2⟩ := ShwK.k I hs l r2 p3 fun t ht => hz t (List.mem_cons_of_mem _ ht)
        rw [← e1] at p1
        rw [← p2] at e2
        obtain ⟨as, h1, k1⟩ := Shw.k I hs h e2 (by omega)
        refine ⟨as ++ bs, (h1.mono' (Nat.le_max_left ..)).app (h2.mono' (Nat.le_max_right ..)), .cons (key_k (show keyIs _ _ = true from p1) kk (by omega)) ((k1.more fun b hb => List.mem_append_left _ hb).level_le (Nat.le_max_left _ _)) ?_⟩
        exact entries_more (fun b hb => List.mem_append_right _ hb) (Nat.le_max_right _ _) k2
end
end
end Wk
set_option maxRecDepth 100000
set_option maxHeartbeats 4000000
namespace Wk
open PySem PySem.Spec PyProof.Rows L2
/-- a list's cell, a dict's cell -/
def LD (o : HO) : Prop := (∃ xs, o = .lst xs) ∨ ∃ kvs, o = .dK kvs
/-- a drawn thing, or a list or a dict that changes -/
def Mt (K : PySem.W.Frag) (R : Cells) (D : Hp) (v : V) : Prop := Th K D v ∨ ∃ p o, v = .ref p ∧ ((p, o) : Addr × HO) ∈ R ∧ LD o
section
variable {K : PySem.W.Frag} {R R' : Cells} {D D' H : Hp} {v : V} {c : Addr × HO}
theorem Th.m (h : Th K D v) : Mt K R D v := .inl h
theorem Mt.at {p : Addr} {xs : List V} (h : ((p, HO.lst xs) : Addr × HO) ∈ R) : Mt K R D (.ref p) := .inr ⟨p, _, rfl, h, .inl ⟨xs, rfl⟩⟩
theorem Mt.mono (h : Mt K R D v) (x : Ex D D') : Mt K R D' v := by
  rcases h with h | h
  · exact .inl (h.mono x)
  · exact .inr h
theorem Mt.cell (h : Mt K R D v) : Mt K (c :: R) D v := by
  rcases h with h | ⟨p, o, e, m, l⟩
  · exact .inl h
  · exact .inr ⟨p, o, e, List.mem_cons_of_mem _ m, l⟩
theorem Mt.sub (h : Mt K R D v) (s : ∀ q ∈ R, q ∈ R') : Mt K R' D v := by
  rcases h with h | ⟨p, o, e, m, l⟩
  · exact .inl h
  · exact .inr ⟨p, o, e, s _ m, l⟩
theorem Mt.kn (h : Mt K R D v) (hI : HI H R D) : (∃ k, Kn K H v k) ∧ ∀ z, v = .str z → TxtOk z := by
  rcases h with h | ⟨p, o, rfl, m, l⟩
  · obtain ⟨⟨k, kn⟩, q⟩ := h
    exact ⟨⟨k, hI.kn kn⟩, q⟩
  · rcases l with ⟨xs, rfl⟩ | ⟨kvs, rfl⟩
    · exact ⟨⟨.lst, .lst (hI.get m)⟩, fun z e => by cases e⟩
    · exact ⟨⟨.dict, .dict (hI.get m)⟩, fun z e => by cases e⟩
end
theorem rin_lst {x : V} {p : Addr} {xs : List V} {H : Hp} {Q : VK} (e : H p = some (.lst xs)) (f : flatV x = true) (g : xs.all flatV = true) (q : Q (.bl (inV x xs)) H) : RIn false x (.ref p) H Q := .lst e f g q
theorem rni_lst {x : V} {p : Addr} {xs : List V} {H : Hp} {Q : VK} (e : H p = some (.lst xs)) (f : flatV x = true) (g : xs.all flatV = true) (q : Q (.bl (!inV x xs)) H) : RIn true x (.ref p) H Q := .lst e f g q
theorem rev_now {H D : Hp} {R : Cells} {Q : VK} {p : Addr} {xs : List V} (hi : HI H ((p, .lst xs) :: R) D) (k : ∀ H', HI H' ((p, .lst xs.reverse) :: R) D → Q .non H') : rReverse (.ref p) [] H Q := ⟨p, xs, rfl, rfl, hi.get (List.mem_cons_self ..), k _ hi.set⟩
/-- a refusal gets out: of the class at C, the very thing v in it -/
def Outs (E : XK) (C : Addr) (v : V) (R : Cells) (D : Hp) : Prop := ∀ d H' D', HI H' R D' → Ex D D' → D' d = some (.xd [(("found" : Str), v)]) → E (.ref C) (some d) H'
theorem Outs.mono {E : XK} {C : Addr} {v : V} {R : Cells} {D D1 : Hp} (o : Outs E C v R D) (x : Ex D D1) : Outs E C v R D1 := fun d H' D' hi ex hd => o d H' D' hi (x.trans ex) hd
theorem Outs.cell {E : XK} {C : Addr} {v : V} {R : Cells} {D : Hp} {x : Addr × HO} (o : Outs E C v R D) : Outs E C v (x :: R) D := fun d H' D' hi ex hd => o d H' D' hi.drop ex hd
end Wk
set_option maxRecDepth 100000
set_option maxHeartbeats 4000000
namespace Wk
open PySem PySem.Spec PyProof.Rows L2
theorem Ty.mono {K : PySem.W.Frag} {H H' : Hp} {v : V} {t : Value} (h : Ty K H v t) (x : Ex H H') : Ty K H' v t := by
  cases h with
  | b h hn e => exact .b (h.mono x) hn e
  | o h => exact .o (h.mono x)
def TyC (K : PySem.W.Frag) (R : Cells) (D : Hp) (v : V) (t : Value) : Prop := Ty K D v t ∨ (∃ p xs, v = .ref p ∧ ((p, HO.lst xs) : Addr × HO) ∈ R ∧ t = .type "list") ∨ ∃ p kvs, v = .ref p ∧ ((p, HO.dK kvs) : Addr × HO) ∈ R ∧ t = .type "dict"
section
variable {K : PySem.W.Frag} {R R' : Cells} {D D' H : Hp} {v : V} {t : Value} {c : Addr × HO}
theorem TyC.mono (h : TyC K R D v t) (x : Ex D D') : TyC K R D' v t := by
  rcases h with h | h
  · exact .inl (h.mono x)
  · exact .inr h
theorem TyC.sub (h : TyC K R D v t) (s : ∀ q ∈ R, q ∈ R') : TyC K R' D v t := by
  rcases h with h | ⟨p, o, e, m, l⟩ | ⟨p, o, e, m, l⟩
  · exact .inl h
  · exact .inr (.inl ⟨p, o, e, s _ m, l⟩)
  · exact .inr (.inr ⟨p, o, e, s _ m, l⟩)
theorem TyC.cell (h : TyC K R D v t) : TyC K (c :: R) D v t := h.sub fun q hq => List.mem_cons_of_mem _ hq
theorem TyC.ty (h : TyC K R D v t) (hI : HI H R D) : Ty K H v t := by
  rcases h with h | ⟨p, xs, rfl, m, rfl⟩ | ⟨p, kvs, rfl, m, rfl⟩
  · exact h.mono hI.sub
  · exact .b (.lst (hI.get m)) (by decide +kernel) rfl
  · exact .b (.dict (hI.get m)) (by decide +kernel) rfl
end
end Wk
set_option maxRecDepth 100000
set_option maxHeartbeats 4000000
namespace Wk
open PySem PySem.Spec PyProof.Rows L2
abbrev LCs := List (Addr × List V)
def lcs (LC : LCs) : Cells := LC.map fun c => (c.1, HO.lst c.2)
/-- a list's items, at most m -/
def Lg (D : Hp) (m : Nat) (xs : List V) : Prop := ∃ ds, RepL D xs ds ∧ (∀ d ∈ ds, Sm d 100 3) ∧ ds.length ≤ m
theorem Lg.mono {D D' : Hp} {m m' : Nat} {xs : List V} (h : Lg D m xs) (x : Ex D D') (l : m ≤ m') : Lg D' m' xs := by
  obtain ⟨ds, a, b, c⟩ := h
  exact ⟨ds, a.mono x, b, Nat.le_trans c l⟩
theorem Lg.snoc {D : Hp} {m : Nat} {xs : List V} {v : V} {d : PyData} (h : Lg D m xs) (r : Rep D v d) (s : Sm d 100 3) : Lg D (m + 1) (xs ++ [v]) := by
  obtain ⟨ds, a, b, c⟩ := h
  refine ⟨ds ++ [d], a.snoc r, fun e he => ?_, by rw [List.length_append]; exact Nat.succ_le_succ c⟩
  rcases List.mem_append.mp he with q | q
  · exact b e q
  · rw [List.mem_singleton.mp q]
    exact s
theorem Lg.len {D : Hp} {m : Nat} {xs : List V} (h : Lg D m xs) : xs.length ≤ m := by
  obtain ⟨ds, a, b, c⟩ := h
  rw [a.length]
  exact c
/-- a thing: data, or one of the lists -/
def Vg (K : PySem.W.Frag) (LC : LCs) (D : Hp) (v : V) : Prop := (∃ k d, Kn K D v k ∧ k.is "list" = false ∧ Rep D v d ∧ Sm d 100 3 ∧ ∀ z, v = .str z → TxtOk z) ∨ ∃ c ∈ LC, v = .ref c.1
section
variable {K : PySem.W.Frag} {LC : LCs} {D D' H : Hp} {R : Cells} {v : V}
theorem Vg.mono (h : Vg K LC D v) (x : Ex D D') : Vg K LC D' v := by
  rcases h with ⟨k, d, a, b, c, e, f⟩ | h
  · exact .inl ⟨k, d, a.mono x, b, c.mono x, e, f⟩
  · exact .inr h
theorem Vg.more {LN : LCs} (h : Vg K LC D v) : Vg K (LN ++ LC) D v := by
  rcases h with h | ⟨c, m, e⟩
  · exact .inl h
  · exact .inr ⟨c, List.mem_append_right _ m, e⟩
theorem Vg.m (h : Vg K LC D v) (s : ∀ q ∈ lcs LC, q ∈ R) : Mt K R D v := by
  rcases h with ⟨k, d, a, b, c, e, f⟩ | ⟨c, m, rfl⟩
  · exact .inl ⟨⟨k, a⟩, f⟩
  · exact .inr ⟨c.1, .lst c.2, rfl, s _ (List.mem_map.mpr ⟨c, m, rfl⟩), .inl ⟨_, rfl⟩⟩
theorem Vg.non : Vg K LC D .non := .inl ⟨.non, _, .non, rfl, .non, Sm.non.mono (by decide) (by decide), fun z e => by cases e⟩
theorem Vg.bl (b : Bool) : Vg K LC D (.bl b) := .inl ⟨.bl, _, .bl b, rfl, .bl b, (Sm.bl b).mono (by decide) (by decide), fun z e => by cases e⟩
theorem Vg.int {i : Int} (h : i.natAbs < 10 ^ 30) : Vg K LC D (.int i) := .inl ⟨.int, _, .int i, rfl, .int i, (Sm.int h).mono (by decide) (by decide), fun z e => by cases e⟩
theorem Vg.str {z : Str} (h : Sg z) (l : z.length ≤ 9) : Vg K LC D (.str z) := .inl ⟨.str, _, .str z, rfl, .str z, (Sm.str h).mono (by omega) (by decide), fun y e => by cases e; exact ⟨by omega, h⟩⟩
theorem Vg.tup {p : Addr} {xs : List V} {d : PyData} (e : D p = some (.tup xs)) (r : Rep D (.ref p) d) (s : Sm d 100 3) : Vg K LC D (.ref p) := .inl ⟨.tup, d, .tup e, rfl, r, s, fun z e => by cases e⟩
theorem Vg.dict {p : Addr} {xs : List (Key × V)} {d : PyData} (e : D p = some (.dK xs)) (r : Rep D (.ref p) d) (s : Sm d 100 3) : Vg K LC D (.ref p) := .inl ⟨.dict, d, .dict e, rfl, r, s, fun z e => by cases e⟩
/-- the thing as repr sees it -/
theorem Vg.rep (h : Vg K LC D v) {m : Nat} (hm : m ≤ 100) (hI : HI H R D) (s : ∀ q ∈ lcs LC, q ∈ R) (g : ∀ c ∈ LC, Lg D m c.2) : ∃ d, Rep H v d ∧ Sm d 11000 4 := by
  rcases h with ⟨k, d, a, b, c, e, f⟩ | ⟨c, mc, rfl⟩
  · exact ⟨d, hI.rep c, e.mono (by decide) (by decide)⟩
  · obtain ⟨ds, r, sm, l⟩ := g c mc
    refine ⟨.list ds, .lst (hI.get (s _ (List.mem_map.mpr ⟨c, mc, rfl⟩))) (r.mono hI.sub), (Sm.list sm).mono ?_ (Nat.le_refl _)⟩
    omega
end
end Wk
set_option maxRecDepth 100000
set_option maxHeartbeats 4000000
namespace Wk
open PySem PySem.Spec PyProof.Rows L2
def DgP (x : V) (H : Hp) (N : Addr → Prop) : Prop := ∃ a, x = .ref a ∧ IsD H a ∧ N a
def DqP (a : Addr) (y : V) (H : Hp) (N : Option V → Prop) : Prop := ∃ o, DGet H a y o ∧ N o
def DvP (x y : V) (H : Hp) (N : V → Prop) : Prop := ∃ a v, x = .ref a ∧ DGet H a y (some v) ∧ N v
def DiP (x y : V) (H : Hp) (N : Option V → Prop) : Prop := ∃ a o, x = .ref a ∧ DGet H a y o ∧ N o
def DpP (x y v : V) (H : Hp) (N : Hp → Prop) : Prop := ∃ a H', x = .ref a ∧ DPut H a y v H' ∧ N H'
def DoP (a : Addr) (y : V) (H : Hp) (Q : VK) : Prop := ∃ kvs k v, H a = some (.dK kvs) ∧ y = kV k ∧ valV kvs k = some v ∧ Q v (upd H a (.dK (dropK kvs k)))
section
variable {K : PySem.W.Frag} {σ : L2.St} {H D : Hp} {R : Cells} {Q : VK} {td ty tx tv : TE} {Ds : Ends} {a : Addr} {kvs : List (Key × V)} {i : Int} {z : Str} {v : V}
theorem se_dget2 (h : td σ H fun x H1 => DgP x H1 fun a => ty σ H1 fun y H2 => tx σ H2 fun z H3 => DqP a y H3 fun o => Q (o.getD z) H3) : tDGet2 td ty tx σ H Q := h
theorem se_dget1 (h : td σ H fun x H1 => DgP x H1 fun a => ty σ H1 fun y H2 => DqP a y H2 fun o => Q (o.getD .non) H2) : tDGet1 td ty σ H Q := h
theorem dg_mk {N : Addr → Prop} (e : H a = some (.dK kvs)) (h : N a) : DgP (.ref a) H N := ⟨a, rfl, .inl ⟨kvs, .inl e⟩, h⟩
theorem dq_i {N : Option V → Prop} (e : H a = some (.dK kvs)) (h : N (valV kvs (.inl i))) : DqP a (.int i) H N := ⟨_, DGet.k (k := Sum.inl i) e, h⟩
theorem dq_s {N : Option V → Prop} (e : H a = some (.dK kvs)) (h : N (valV kvs (.inr z))) : DqP a (.str z) H N := ⟨_, DGet.k (k := Sum.inr z) e, h⟩
theorem se_dsub (h : td σ H fun x H1 => ty σ H1 fun y H2 => DvP x y H2 fun v => Q v H2) : tDGet td ty σ H Q := h
theorem se_din (h : ty σ H fun y H1 => td σ H1 fun x H2 => DiP x y H2 fun o => Q (.bl o.isSome) H2) : tDIn ty td σ H Q := h
theorem se_dni (h : ty σ H fun y H1 => td σ H1 fun x H2 => DiP x y H2 fun o => Q (.bl (!o.isSome)) H2) : tDNotIn ty td σ H Q := h
theorem di_i {N : Option V → Prop} (e : H a = some (.dK kvs)) (h : N (valV kvs (.inl i))) : DiP (.ref a) (.int i) H N := ⟨a, _, rfl, DGet.k (k := Sum.inl i) e, h⟩
theorem di_s {N : Option V → Prop} (e : H a = some (.dK kvs)) (h : N (valV kvs (.inr z))) : DiP (.ref a) (.str z) H N := ⟨a, _, rfl, DGet.k (k := Sum.inr z) e, h⟩
theorem st_dput (h : tv σ H fun v H1 => td σ H1 fun x H2 => ty σ H2 fun y H3 => DpP x y v H3 fun H4 => Ds.nx σ H4) : sDPut td ty tv Ds σ H := h
theorem dp_i {N : Hp → Prop} (hi : HI H ((a, .dK kvs) :: R) D) (hl : kvs.length < 1000000) (k : ∀ H', HI H' ((a, .dK (putK kvs (.inl i) v)) :: R) D → N H') : DpP (.ref a) (.int i) v H N :=
  ⟨a, _, rfl, DPut.k (k := Sum.inl i) (hi.get (List.mem_cons_self ..)) (by rw [sizeLine_eq]; omega), k _ hi.set⟩
theorem dp_s {N : Hp → Prop} (hi : HI H ((a, .dK kvs) :: R) D) (hl : kvs.length < 1000000) (k : ∀ H', HI H' ((a, .dK (putK kvs (.inr z) v)) :: R) D → N H') : DpP (.ref a) (.str z) v H N :=
  ⟨a, _, rfl, DPut.k (k := Sum.inr z) (hi.get (List.mem_cons_self ..)) (by rw [sizeLine_eq]; omega), k _ hi.set⟩
theorem se_dpop1 (h : td σ H fun x H1 => DgP x H1 fun a => ty σ H1 fun y H2 => DoP a y H2 Q) : tDPop1 td ty σ H Q := h
end
def tDNewM : TE := tDNewK
theorem pe_dnewM {X : Cx} {pos : Pos} : PE X (.Dict [] [] pos) tDNewM := pe_dnewK
theorem se_dnewM {σ : L2.St} {H : Hp} {Q : VK} (h : AlM (.dK []) H Q) : tDNewM σ H Q := h
inductive RLenO (C : Addr) (sp : Sp) : List V → Hp → VK → Prop
  | b {xs : List V} {H : Hp} {Q : VK} : RLen xs H Q → RLenO C sp xs H Q
  | o {a dx : Addr} {fs : List (Str × V)} {H : Hp} {Q : VK} : H a = some (.ins C dx fs) → sp [.ref a] H (fun v H' => ∃ n : Int, v = .int n ∧ 0 ≤ n ∧ n < 2 ^ 62 ∧ Q (.int n) H') (fun _ _ _ => False) → RLenO C sp [.ref a] H Q
theorem call_lenO {X : Cx} {k : Nat} {f C : Addr} {sp : Sp} {ps : List Str} (hc : PySem.W.findIn X.K (.ref C) "__len__" = some (some (.ref f))) (hf : PySem.W.isFn X.K (.ref f) = true) (F : FnG X.prog X.w X.K X.mg X.base k f ps sp) (hb : Binds X.K (fdOf X.K f) ps []) (hgu : X.A.guards = some []) (hr : Room (k + 1) X.A) :
    CallR X (.builtin "len") (RLenO C sp) := by
  intro pins s σ H xs us Q I r h
  cases h with
  | b q => exact call_lenU pins s σ H _ us Q I r q
  | @o a dx fs _ _ e q =>
    obtain ⟨u, rfl, ru⟩ := vals1 r
    cases ru
    obtain ⟨ox, od, J⟩ := ins_at I e
    obtain ⟨m, hF⟩ := I.fr
    refine PySem.W.len_K hF I.ok.mod.kin J hc hf ?_
    refine wpAny_mono (run_at F (by exact hgu) rfl hr.in1 hb I (.cons (show L2.RelV (.ref a) (.ref a) from rfl) .nil) q) (fun u' s' hu => ?_) fun _ _ z => z
    obtain ⟨w, H', I', rw', n, rfl, n0, n1, q'⟩ := hu
    obtain ⟨t, rfl⟩ := rw'
    exact ⟨⟨n0, Int.lt_trans n1 (by decide)⟩, ⟨.int n, H', I'.tok _, ⟨_, rfl⟩, q'⟩⟩
def iSeq (K : PySem.W.Frag) (tl : TE) : TI := fun σ H R => tl σ H fun x H1 => (∃ a, x = .ref a ∧ (∃ xs, SqL K H1 a xs) ∧ R (Itl K a) H1) ∨ ∃ a, x = .ref a ∧ (∃ xs, SqT K H1 a xs) ∧ R (Itt K a) H1
theorem pi_seq {X : Cx} {tg l : Expr} {tl : TE} (hl : PE X l tl) : PI X tg l (iSeq X.K tl) := by
  refine ⟨fun pins s σ H R I h => ?_⟩
  refine thn (hl.run pins s σ H _ I h) fun v s1 ⟨x, H1, I1, r1, q1⟩ => ?_
  rcases q1 with ⟨a, e, ⟨xs, hq⟩, q⟩ | ⟨a, e, ⟨xs, hq⟩, q⟩
  · subst e
    cases r1
    obtain ⟨its, rv, p, hz⟩ := I1.list hq
    refine wpAny_pyIter_list p.isList ?_
    refine ⟨s1.heap.objs.size, [s1.heap.objs.size], _, _, H1, rfl, I1.kept (t' := s1.toks) fun b o e => Heap.get?_push_of_some _ e, turn_list a _, ⟨_, Heap.get?_push_size _ rfl, rfl, rfl⟩, fun b hb => ?_, q⟩
    have e : b = s1.heap.objs.size := by simpa using hb
    subst e
    exact I1.fpOk (Nat.le_refl _) (I1.hok.fresh (Nat.le_refl _))
  · subst e
    cases r1
    obtain ⟨its, rv, p, hz⟩ := I1.tuple hq
    refine wpAny_pyIter_tuple (show s1.heap.IsTuple a its.toArray from p) ?_
    refine ⟨s1.heap.objs.size, [s1.heap.objs.size], _, _, H1, rfl, I1.kept (t' := s1.toks) fun b o e => Heap.get?_push_of_some _ e, turn_tuple a _, ⟨_, Heap.get?_push_size _ rfl, rfl, rfl⟩, fun b hb => ?_, q⟩
    have e : b = s1.heap.objs.size := by simpa using hb
    subst e
    exact I1.fpOk (Nat.le_refl _) (I1.hok.fresh (Nat.le_refl _))
section
variable {K : PySem.W.Frag} {σ : L2.St} {H : Hp} {te : TE} {R : It → Hp → Prop} {a : Addr} {xs : List V}
theorem it_seq (h : te σ H fun x H1 => (∃ a, x = .ref a ∧ (∃ xs, SqL K H1 a xs) ∧ R (Itl K a) H1) ∨ ∃ a, x = .ref a ∧ (∃ xs, SqT K H1 a xs) ∧ R (Itt K a) H1) : iSeq K te σ H R := h
theorem seq_l {P P' : Addr → Prop} (h : H a = some (.lst xs)) (q : P a) : (∃ b, V.ref a = .ref b ∧ (∃ xs, SqL K H b xs) ∧ P b) ∨ ∃ b, V.ref a = .ref b ∧ (∃ xs, SqT K H b xs) ∧ P' b := .inl ⟨a, rfl, ⟨xs, SqL.of h⟩, q⟩
theorem seq_t {P P' : Addr → Prop} (h : H a = some (.tup xs)) (q : P' a) : (∃ b, V.ref a = .ref b ∧ (∃ xs, SqL K H b xs) ∧ P b) ∨ ∃ b, V.ref a = .ref b ∧ (∃ xs, SqT K H b xs) ∧ P' b := .inr ⟨a, rfl, ⟨xs, SqT.of h⟩, q⟩
end
/-- a statement that nothing reaches -/
theorem ps_never {X : Cx} {st : Stmt} : PS X st (fun _ _ _ => False) := ⟨fun _ _ _ _ _ _ h => h.elim⟩
inductive Sq3 (R : Cells) (D : Hp) (p : Addr) (xs : List V) : Prop
  | l (e : D p = some (.lst xs))
  | t (e : D p = some (.tup xs))
  | c (m : ((p, HO.lst xs) : Addr × HO) ∈ R)
theorem Sq3.mono {R : Cells} {D D' : Hp} {p : Addr} {xs : List V} (s : Sq3 R D p xs) (x : Ex D D') : Sq3 R D' p xs := by
  cases s with
  | l e => exact .l (x _ _ e)
  | t e => exact .t (x _ _ e)
  | c m => exact .c m
theorem Sq3.sub {R R' : Cells} {D : Hp} {p : Addr} {xs : List V} (s : Sq3 R D p xs) (h : ∀ q ∈ R, q ∈ R') : Sq3 R' D p xs := by
  cases s with
  | l e => exact .l e
  | t e => exact .t e
  | c m => exact .c (h _ m)
theorem Sq3.len {H D : Hp} {R : Cells} {p : Addr} {xs : List V} {Q : VK} (hi : HI H R D) (s : Sq3 R D p xs) (q : Q (.int xs.length) H) : RLen [.ref p] H Q := by
  cases s with
  | l e => exact .lst (hi.dat e) q
  | t e => exact .tup (hi.dat e) q
  | c m => exact .lst (hi.get m) q
theorem Sq3.list {H D : Hp} {R : Cells} {p : Addr} {xs : List V} {Q : VK} (hi : HI H R D) (s : Sq3 R D p xs) (q : AlD (.lst xs) H Q) : RListO [.ref p] H Q := by
  cases s with
  | l e => exact .l (hi.dat e) q
  | t e => exact .t (hi.dat e) q
  | c m => exact .l (hi.get m) q
theorem Sq3.isi {K : PySem.W.Frag} {H D : Hp} {R : Cells} {p T : Addr} {xs : List V} {Q : VK} (hi : HI H R D) (s : Sq3 R D p xs) (e : H T = some (.tup [.ty "list", .ty "tuple"])) (q : Q (.bl true) H) : RIsiT K [.ref p, .ref T] H Q := by
  have hs : ∀ n ∈ (["list", "tuple"] : List String), n ∈ six := by decide +kernel
  cases s with
  | l e1 => exact .ty (k := .lst) (ns := ["list", "tuple"]) (.lst (hi.dat e1)) e hs q
  | t e1 => exact .ty (k := .tup) (ns := ["list", "tuple"]) (.tup (hi.dat e1)) e hs q
  | c m => exact .ty (k := .lst) (ns := ["list", "tuple"]) (.lst (hi.get m)) e hs q
section
variable {K : PySem.W.Frag} {g : TG} {tb : TS} {D : Ends} {σ : L2.St} {H D0 : Hp} {R0 : Cells} {tt : TT} {te : TE} {vs : List Nat} {Q : VK} {a : Addr} {xs : List V}
theorem lc_seq (s : Sq3 R0 D0 a xs) (I : Nat → List V → Cells → Hp → Prop) (hi : HI H R0 D0) (h0 : I 0 [] R0 D0) (hl : ∀ i acc R Dd, I i acc R Dd → (∀ q ∈ R0, q ∈ R) ∧ Ex D0 Dd)
    (hs : ∀ L i acc x R Dd H, xs[i]? = some x → HI H ((L, .lst acc) :: R) Dd → I i acc R Dd → acc.length ≤ i → g x (wipe σ vs) H fun σ2 H2 => wipe σ2 vs = wipe σ vs ∧ tt σ2 H2 fun b H3 => if b = true then te σ2 H3 (LE L I (i + 1)) else PW' L I (i + 1) H3)
    (hd : ∀ L acc R Dd H, HI H ((L, .lst acc) :: R) Dd → I xs.length acc R Dd → acc.length ≤ xs.length → Q (.ref L) H) :
    (∃ b, V.ref a = .ref b ∧ (∃ xs, SqL K H b xs) ∧ LcK (Itl K b) g tt te vs σ H Q) ∨ ∃ b, V.ref a = .ref b ∧ (∃ xs, SqT K H b xs) ∧ LcK (Itt K b) g tt te vs σ H Q := by
  cases s with
  | l e => exact .inl ⟨a, rfl, ⟨xs, SqL.of (hi.dat e)⟩, lc_lst I hi h0 (fun i acc R Dd p => (hl i acc R Dd p).2 _ _ e) hs hd⟩
  | t e => exact .inr ⟨a, rfl, ⟨xs, SqT.of (hi.dat e)⟩, lc_tup I hi h0 (fun i acc R Dd p => (hl i acc R Dd p).2 _ _ e) hs hd⟩
  | c m => exact .inl ⟨a, rfl, ⟨xs, SqL.of (hi.get m)⟩, lc_hi walk_list I hi h0 (fun i acc R Dd H _ q p => SqL.of (q.get ((hl i acc R Dd p).1 _ m))) (fun L i acc x R Dd H H' hn a b c y => by
      obtain ⟨rfl, y⟩ := y
      exact hs L i acc x R Dd H' y a b c) hd⟩
end
theorem paired_mono {α β : Type} {r s : α → β → Prop} (h : ∀ a b, r a b → s a b) : ∀ {xs : List α} {ys : List β}, Paired r xs ys → Paired s xs ys
  | _, _, .nil => .nil
  | _, _, .cons a l => .cons (h _ _ a) (paired_mono h l)
theorem ip_mk {g : Int → Int → Int} {i j : Int} {H : Hp} {N : V → Hp → Prop} (h : N (.int (g i j)) H) : ipI g (.int i) (.int j) H N := ⟨i, j, rfl, rfl, h⟩
end Wk
set_option maxRecDepth 100000
set_option maxHeartbeats 4000000
namespace Wk
open PySem PySem.Spec PyProof.Rows L2
/-- a value that is equal to itself by a look -/
def Sf (v : V) : Prop := flatB v = true ∨ ∃ a, v = .ref a
theorem Sf.ref (a : Addr) : Sf (.ref a) := .inr ⟨a, rfl⟩
theorem sf_at {A : Around} {s : Shared} {v : V} {u w : Value} (h : Sf v) (r : RelV v u) (r2 : RelV v w) : SeqAt.EqAt A s u w true := by
  rcases h with h | ⟨a, rfl⟩
  · exact eqAt_same r r2 h
  · cases (show u = Value.ref a from r)
    cases (show w = Value.ref a from r2)
    exact SeqAt.EqAt.same _
theorem sf_items {A : Around} {s : Shared} {xs : List V} (h : ∀ v ∈ xs, Sf v) : ∀ {us ws : List Value}, Vals xs us → Vals xs ws → ∀ j (h1 : j < us.length) (h2 : j < ws.length), SeqAt.EqAt A s us[j] ws[j] true := by
  induction xs with
  | nil =>
    intro us ws r1 r2 j h1 h2
    cases r1
    exact absurd h1 (Nat.not_lt_zero j)
  | cons x r ih =>
    intro us ws r1 r2 j h1 h2
    cases r1 with
    | cons a1 b1 =>
      cases r2 with
      | cons a2 b2 =>
        cases j with
        | zero => exact sf_at (h x (List.mem_cons_self ..)) a1 a2
        | succ j => exact ih (fun v hv => h v (List.mem_cons_of_mem _ hv)) b1 b2 j (Nat.lt_of_succ_lt_succ h1) (Nat.lt_of_succ_lt_succ h2)
inductive REqI (neg : Bool) : V → V → Hp → VK → Prop
  | b {x y : V} {H : Hp} {Q : VK} : REq neg x y H Q → REqI neg x y H Q
  | same {p q : Addr} {xs : List V} {H : Hp} {Q : VK} : H p = some (.lst xs) → H q = some (.lst xs) → (∀ v ∈ xs, Sf v) → Q (.bl (!neg)) H → REqI neg (.ref p) (.ref q) H Q
  | len {p q : Addr} {xs ys : List V} {H : Hp} {Q : VK} : H p = some (.lst xs) → H q = some (.lst ys) → xs.length ≠ ys.length → Q (.bl neg) H → REqI neg (.ref p) (.ref q) H Q
section
variable {X : Cx}
theorem op_eqI (hu : X.A.units + 64 < cLine) : OpR X (compareOp .Eq) (REqI false) := by
  intro pins s σ H x y v u Q I rx ry h
  have hu0 : X.A.units < cLine := by omega
  cases h with
  | b q => exact op_eqU hu pins s σ H _ _ v u Q I rx ry q
  | @same p q xs _ _ h1 h2 hs q =>
    obtain rfl : v = Value.ref p := rx
    obtain rfl : u = Value.ref _ := ry
    obtain ⟨us, r1, p1, _⟩ := I.list (SqL.of h1)
    obtain ⟨ws, r2, p2, _⟩ := I.list (SqL.of h2)
    have hsz : us.toArray.size = ws.toArray.size := by
      rw [List.size_toArray, List.size_toArray, ← r1.length, ← r2.length]
    refine SeqAt.RcAt.lists (e := fun _ => true) p1.isList p2.isList hsz hu0 (fun j h1 h2 => ?_) X.prog X.w _ _ ?_
    · have k := sf_items (A := X.A.in1) (s := s) hs r1 r2 j (by simpa using h1) (by simpa using h2)
      simpa using k
    · rw [show ((List.range us.toArray.size).all fun _ => true) = true from List.all_eq_true.mpr fun _ _ => rfl]
      exact ⟨.bl true, H, I, rfl, q⟩
  | @len p q xs ys _ _ h1 h2 hn q =>
    obtain rfl : v = Value.ref p := rx
    obtain rfl : u = Value.ref _ := ry
    obtain ⟨us, r1, p1, _⟩ := I.list (SqL.of h1)
    obtain ⟨ws, r2, p2, _⟩ := I.list (SqL.of h2)
    refine SeqAt.RcAt.lists_lengths p1.isList p2.isList (by
      rw [List.size_toArray, List.size_toArray, ← r1.length, ← r2.length]
      exact bne_iff_ne.mpr hn) hu0 X.prog X.w _ _ ⟨.bl false, H, I, rfl, q⟩
theorem op_neI (hu : X.A.units + 64 < cLine) : OpR X (compareOp .NotEq) (REqI true) := by
  intro pins s σ H x y v u Q I rx ry h
  have hu0 : X.A.units < cLine := by omega
  cases h with
  | b q => exact op_neU hu pins s σ H _ _ v u Q I rx ry q
  | @same p q xs _ _ h1 h2 hs q =>
    obtain rfl : v = Value.ref p := rx
    obtain rfl : u = Value.ref _ := ry
    obtain ⟨us, r1, p1, _⟩ := I.list (SqL.of h1)
    obtain ⟨ws, r2, p2, _⟩ := I.list (SqL.of h2)
    have hsz : us.toArray.size = ws.toArray.size := by
      rw [List.size_toArray, List.size_toArray, ← r1.length, ← r2.length]
    refine SeqAt.RcNeAt.lists (e := fun _ => true) p1.isList p2.isList hsz hu0 (fun j h1 h2 => ?_) X.prog X.w _ _ ?_
    · have k := sf_items (A := X.A.in1) (s := s) hs r1 r2 j (by simpa using h1) (by simpa using h2)
      simpa using k
    · rw [show ((List.range us.toArray.size).all fun _ => true) = true from List.all_eq_true.mpr fun _ _ => rfl]
      exact ⟨.bl false, H, I, rfl, q⟩
  | @len p q xs ys _ _ h1 h2 hn q =>
    obtain rfl : v = Value.ref p := rx
    obtain rfl : u = Value.ref _ := ry
    obtain ⟨us, r1, p1, _⟩ := I.list (SqL.of h1)
    obtain ⟨ws, r2, p2, _⟩ := I.list (SqL.of h2)
    refine SeqAt.RcNeAt.lists_lengths p1.isList p2.isList (by
      rw [List.size_toArray, List.size_toArray, ← r1.length, ← r2.length]
      exact bne_iff_ne.mpr hn) hu0 X.prog X.w _ _ ⟨.bl true, H, I, rfl, q⟩
end
theorem paired_get {α β : Type} {r : α → β → Prop} : ∀ {xs : List α} {ys : List β} {i : Nat} {x : α}, Paired r xs ys → xs[i]? = some x → ∃ y, ys[i]? = some y ∧ r x y
  | _, _, _, _, .nil, e => by simp at e
  | _, _, 0, _, .cons h _, e => by
    simp at e
    subst e
    exact ⟨_, rfl, h⟩
  | _, _, i + 1, _, .cons _ l, e => by
    obtain ⟨y, a, b⟩ := paired_get (i := i) l (by simpa using e)
    exact ⟨y, by simpa using a, b⟩
theorem fil_one {α : Type} {P : α → Bool} {a : α} : [a].filter P = if P a = true then [a] else [] := by
  by_cases h : P a = true
  · rw [if_pos h, List.filter_cons_of_pos h, List.filter_nil]
  · rw [if_neg h, List.filter_cons_of_neg h, List.filter_nil]
inductive RGetL : V → V → Hp → VK → Prop
  | l {p : Addr} {xs : List V} {i : Int} {v : V} {H : Hp} {Q : VK} : H p = some (.lst xs) → 0 ≤ i → xs[i.toNat]? = some v → Q v H → RGetL (.ref p) (.int i) H Q
theorem st_augS {to ti te : TE} {tget : V → V → Hp → VK → Prop} {tip : TIp} {tset : TSet} {D : Ends} {σ : L2.St} {H : Hp} (h : to σ H fun o H1 => ti σ H1 fun i H2 => tget o i H2 fun x H3 => te σ H3 fun y H4 => tip x y H4 fun z H5 => tset o i z H5 fun H6 => D.nx σ H6) : tAugS to ti te tget tip tset D σ H := h
section
variable {K : PySem.W.Frag} {g : TG} {tb : TS} {D : Ends} {σ : L2.St} {H D0 : Hp} {R0 Rs : Cells} {tt : TT} {te : TE} {vs : List Nat} {Q : VK} {a : Addr} {xs : List V}
/-- a walk over a list or a tuple that stands in Rs, while other cells change -/
theorem for_seqR (s : Sq3 Rs D0 a xs) (hR : ∀ q ∈ Rs, q ∈ R0) (I : Nat → L2.St → Cells → Hp → Prop) (hi : HI H R0 D0) (h0 : I 0 σ R0 D0) (hl : ∀ i σ R Dd, I i σ R Dd → (∀ q ∈ Rs, q ∈ R) ∧ Ex D0 Dd)
    (hs : ∀ (i : Nat) x σ R Dd H, xs[i]? = some x → HI H R Dd → I i σ R Dd → g x σ H fun σ2 H2 => tb { D with nx := NX I (i + 1), ct := NX I (i + 1), bk := D.nx } σ2 H2) (hd : ∀ σ R Dd H, HI H R Dd → I xs.length σ R Dd → D.nx σ H) :
    (∃ b, V.ref a = .ref b ∧ (∃ xs, SqL K H b xs) ∧ ForK (Itl K b) g tb D σ H) ∨ ∃ b, V.ref a = .ref b ∧ (∃ xs, SqT K H b xs) ∧ ForK (Itt K b) g tb D σ H := by
  cases s with
  | l e => exact .inl ⟨a, rfl, ⟨xs, SqL.of (hi.dat e)⟩, for_lst I hi h0 (fun i σ R Dd p => (hl i σ R Dd p).2 _ _ e) hs hd⟩
  | t e => exact .inr ⟨a, rfl, ⟨xs, SqT.of (hi.dat e)⟩, for_tup I hi h0 (fun i σ R Dd p => (hl i σ R Dd p).2 _ _ e) hs hd⟩
  | c m => exact .inl ⟨a, rfl, ⟨xs, SqL.of (hi.get (hR _ m))⟩, for_hi walk_list I hi h0 (fun i σ R Dd H _ q p => SqL.of (q.get ((hl i σ R Dd p).1 _ m))) (fun i x σ R Dd H H' hn a b y => by
      obtain ⟨rfl, y⟩ := y
      exact hs i x σ R Dd H' y a b) hd⟩
end
section
variable {K : PySem.W.Frag} {g : TG} {tb : TS} {D : Ends} {σ : L2.St} {H D0 : Hp} {R0 : Cells} {tt : TT} {te : TE} {vs : List Nat} {Q : VK} {a : Addr} {xs : List V}
/-- a walk over a list that is a cell and stays so -/
theorem lc_cell (I : Nat → List V → Cells → Hp → Prop) (hi : HI H R0 D0) (h0 : I 0 [] R0 D0) (hl : ∀ i acc R Dd, I i acc R Dd → ((a, HO.lst xs) : Addr × HO) ∈ R)
    (hs : ∀ L i acc x R Dd H, xs[i]? = some x → HI H ((L, .lst acc) :: R) Dd → I i acc R Dd → acc.length ≤ i → g x (wipe σ vs) H fun σ2 H2 => wipe σ2 vs = wipe σ vs ∧ tt σ2 H2 fun b H3 => if b = true then te σ2 H3 (LE L I (i + 1)) else PW' L I (i + 1) H3)
    (hd : ∀ L acc R Dd H, HI H ((L, .lst acc) :: R) Dd → I xs.length acc R Dd → acc.length ≤ xs.length → Q (.ref L) H) : LcK (Itl K a) g tt te vs σ H Q :=
  lc_hi walk_list I hi h0 (fun i acc R Dd H _ q p => SqL.of (q.get (hl i acc R Dd p))) (fun L i acc x R Dd H H' hn a b c y => by
    obtain ⟨rfl, y⟩ := y
    exact hs L i acc x R Dd H' y a b c) hd
end
theorem sm_kv {n k : Nat} : ∀ {ds : List (PyData × PyData)}, (∀ d ∈ ds, Sm d.1 n k ∧ Sm d.2 n k) → PyData.showableKv ds = true ∧ (((PyData.shownKv ds).map (·.length)).sum ≤ (2 * n + 2) * ds.length ∧ (PyData.shownKv ds).length = ds.length) ∧ PyData.depthKv ds ≤ k
  | [], _ => ⟨rfl, ⟨Nat.zero_le _, rfl⟩, Nat.zero_le _⟩
  | (x, y) :: ds, h => by
    obtain ⟨a, ⟨b, c⟩, e⟩ := sm_kv (ds := ds) fun z hz => h z (List.mem_cons_of_mem _ hz)
    obtain ⟨⟨a1, b1, e1⟩, ⟨a2, b2, e2⟩⟩ := h (x, y) (List.mem_cons_self ..)
    dsimp only at a1 b1 e1 a2 b2 e2
    refine ⟨?_, ⟨?_, ?_⟩, ?_⟩
    · simp only [PyData.showableKv, a1, a2, a, Bool.and_self]
    · simp only [PyData.shownKv, List.map_cons, List.sum_cons, List.length_cons, Nat.mul_succ]
      rw [len_app, len_app, show (": " : Str).length = 2 from rfl]
      omega
    · simp only [PyData.shownKv, List.length_cons, c]
    · simp only [PyData.depthKv]
      omega
theorem Sm.dict {n k : Nat} {ds : List (PyData × PyData)} (h : ∀ d ∈ ds, Sm d.1 n k ∧ Sm d.2 n k) : Sm (.dict ds) ((2 * n + 2) * ds.length + 2 * ds.length + 3) (k + 1) := by
  obtain ⟨a, ⟨b, c⟩, e⟩ := sm_kv h
  refine ⟨by simpa only [PyData.showable] using a, ?_, by simp only [PyData.depth]; omega⟩
  have jl := PySem.dictText_len_le (PyData.shownKv ds)
  rw [c] at jl
  have e4 : (PyData.dict ds).shown = PySem.dictText (PyData.shownKv ds) := by simp only [PyData.shown]
  rw [e4]
  omega
def RvP (K : PySem.W.Frag) (x : V) (H : Hp) (Q : VK) : Prop := ∃ a xs, x = .ref a ∧ SqL K H a xs ∧ AlD (.lst xs.reverse) H Q
theorem se_revL {K : PySem.W.Frag} {te : TE} {σ : L2.St} {H : Hp} {Q : VK} (h : te σ H fun x H1 => RvP K x H1 Q) : tRevL K te σ H Q := h
theorem rv_mk {K : PySem.W.Frag} {H : Hp} {Q : VK} {a : Addr} {xs : List V} (e : H a = some (.lst xs)) (q : AlD (.lst xs.reverse) H Q) : RvP K (.ref a) H Q := ⟨a, xs, rfl, SqL.of e, q⟩
theorem HI.frAll {H : Hp} : ∀ {LC : LCs} {R : Cells} {D : Hp}, HI H (lcs LC ++ R) D → ∃ D', HI H R D' ∧ Ex D D' ∧ ∀ c ∈ LC, D' c.1 = some (.lst c.2)
  | [], R, D, h => ⟨D, h, Ex.refl _, fun c hc => nomatch hc⟩
  | c :: LC, R, D, h => by
    have h' : HI H ((c.1, HO.lst c.2) :: (lcs LC ++ R)) D := h
    obtain ⟨D1, h1, x1, e1⟩ := h'.fr1
    obtain ⟨D2, h2, x2, e2⟩ := HI.frAll h1
    exact ⟨D2, h2, x1.trans x2, fun d hd => by
      rcases List.mem_cons.mp hd with rfl | hd
      · exact x2 _ _ e1
      · exact e2 d hd⟩
end Wk
set_option maxRecDepth 100000
set_option maxHeartbeats 4000000
namespace Wk
open PySem PySem.Spec PyProof.Rows L2
open PySem.W PySem.Calls
/-- x is no T -/
abbrev NoI (prog : Program) (w : World) (T : String) (x : Addr) (s : Shared) : Prop := ∀ (A : Around) (E : Value → Shared → Prop) (Q : Bool → Shared → Prop), Q false s → wpAny (model prog w) A (isInstance (.ref x) (.type T)) Q E s
theorem list_back {prog : Program} {w : World} (l x : Addr) (items : Array Value) (n : Nat) :
    MeetsIn prog w (Builtin.«list.__eq__» ⟨[.ref l, .ref x], []⟩) (fun _ R s => s.heap.get? l = some { cls := .type "list", data := .seq items n } ∧ NoI prog w "list" x s ∧ R (.ok (.ret .notImplemented)) s) := fun A R s h => by
  obtain ⟨hl, hn, h⟩ := h
  have hn' := hn A.in1 (fun e s' => R (.error e) s')
  obtain ⟨hp, g, d, tk, os⟩ := s
  wp_walk using wpAny_loadPart' hl, hn'
  exact h
theorem tuple_back {prog : Program} {w : World} (l x : Addr) (items : Array Value) (n : Nat) (dd : Option Addr) (sl : Array (Option Value)) :
    MeetsIn prog w (Builtin.«tuple.__eq__» ⟨[.ref l, .ref x], []⟩) (fun _ R s => s.heap.get? l = some { cls := .type "tuple", dict := dd, data := .seq items n, slots := sl } ∧ NoI prog w "tuple" x s ∧ R (.ok (.ret .notImplemented)) s) := fun A R s h => by
  obtain ⟨hl, hn, h⟩ := h
  have hn' := hn A.in1 (fun e s' => R (.error e) s')
  obtain ⟨hp, g, d, tk, os⟩ := s
  wp_walk using wpAny_loadPart' hl, hn'
  exact h
theorem dict_back {prog : Program} {w : World} (l x : Addr) (o : Obj) :
    MeetsIn prog w (Builtin.«dict.__eq__» ⟨[.ref l, .ref x], []⟩) (fun _ R s => s.heap.get? l = some o ∧ NoI prog w "dict" x s ∧ R (.ok (.ret .notImplemented)) s) := fun A R s h => by
  obtain ⟨hl, hn, h⟩ := h
  have hn' := hn A.in1 (fun e s' => R (.error e) s')
  obtain ⟨hp, g, d, tk, os⟩ := s
  wp_walk using wpAny_loadPart' hl, hn'
  exact h
theorem str_back {prog : Program} {w : World} (z : Str) (t : Tok) (x C dx : Addr) :
    MeetsIn prog w (Builtin.«str.__eq__» ⟨[.str z t, .ref x], []⟩) (fun _ R s => s.heap.get? x = some (instObj C dx) ∧ R (.ok (.ret .notImplemented)) s) := fun A R s h => by
  obtain ⟨hx, h⟩ := h
  obtain ⟨hp, g, d, tk, os⟩ := s
  wp_walk using wpAny_load hx
  exact h
theorem int_back {prog : Program} {w : World} (z : Int) (t : Tok) (x C dx : Addr) :
    MeetsIn prog w (Builtin.«int.__eq__» ⟨[.int z t, .ref x], []⟩) (fun _ R s => s.heap.get? x = some (instObj C dx) ∧ R (.ok (.ret .notImplemented)) s) := fun A R s h => by
  obtain ⟨hx, h⟩ := h
  obtain ⟨hp, g, d, tk, os⟩ := s
  wp_walk using wpAny_load hx
  exact h
theorem bool_back {prog : Program} {w : World} (z : Bool) (x C dx : Addr) :
    MeetsIn prog w (Builtin.«int.__eq__» ⟨[.bool z, .ref x], []⟩) (fun _ R s => s.heap.get? x = some (instObj C dx) ∧ R (.ok (.ret .notImplemented)) s) := fun A R s h => by
  obtain ⟨hx, h⟩ := h
  obtain ⟨hp, g, d, tk, os⟩ := s
  wp_walk using wpAny_load hx
  exact h
/-- a thing of the kit's type Ta == the instance at x: Ta's own answer is none, so x's class is asked -/
theorem cmp_back {prog : Program} {w : World} {A : Around} {E : Value → Shared → Prop} {s : Shared} {K : Frag} {x C f : Addr} {ox od : Obj} {a : Value} {Ta ida : String} {Q : Value → Shared → Prop} (hu : A.units < cLine) (X : K.In s.heap) (I : InstAt s.heap x ox C (some od)) (ta : s.TypeIs a Ta)
    (hsub : subIn K (.ref C) (.type Ta) = some false) (h1 : Slot Ta (cmpInfo .Eq).2.1 ida) (hc1 : ∀ Q' : Value → Shared → Prop, Q' .notImplemented s → wpAny (model prog w) A (call (.builtin ida) [a, .ref x]) Q' E s)
    (hs : findIn K (.ref C) "__eq__" = some (some (.ref f))) (hf : isFn K (.ref f) = true) (h : wpAny (model prog w) A (call (.ref f) [.ref x, a]) (PySem.W.CmpBack Q) E s) : wpAny (model prog w) A (richCompare .Eq a (.ref x)) Q E s := by
  have back : wpAny (model prog w) A (tryCompare (.ref x) "__eq__" a) (fun r s' => ∃ v, r = some v ∧ Q v s') E s := by
    unfold tryCompare
    refine wpAny_bind (ifBound_K X I hs hf (wpAny_mono h (fun v s' hv => ?_) fun _ _ e => e))
    cases v <;> first | exact hv.elim | exact wpAny_pure ⟨_, rfl, hv⟩
  unfold richCompare
  rw [ta.oneThing_none]
  refine wpAny_holding (wpAny_bind (wpAny_cRoomFor hu ?_))
  refine wpAny_bind (wpAny_typeOf ta (wpAny_bind (I.type.here ?_)))
  have hne : (Value.type Ta != Value.ref C) = true := rfl
  simp only [hne, if_true]
  refine wpAny_bind ((looks_subIn X hsub).here ?_)
  simp only [Bool.false_eq_true, if_false, Bool.not_false, if_true]
  refine wpAny_bind (m := tryCompare a _ _) (wpAny_tryCompare_declines ta h1 (hc1 _ ⟨rfl, ?_⟩))
  refine wpAny_bind (wpAny_mono back (fun r s' z => ?_) fun _ _ e => e)
  obtain ⟨v, rfl, hq⟩ := z
  exact wpAny_pure hq
/-- a plain thing -/
inductive Pl (H : Hp) : V → Prop
  | non : Pl H .non
  | bl (b : Bool) : Pl H (.bl b)
  | int (i : Int) : Pl H (.int i)
  | str (z : Str) : Pl H (.str z)
  | lst {p : Addr} {xs : List V} (e : H p = some (.lst xs)) : Pl H (.ref p)
  | tup {p : Addr} {xs : List V} (e : H p = some (.tup xs)) : Pl H (.ref p)
  | dict {p : Addr} {kvs : List (Key × V)} (e : H p = some (.dK kvs)) : Pl H (.ref p)
/-- == where an instance of C stands on the left, or on the right of a plain thing -/
inductive REqK (K : PySem.W.Frag) (C : Addr) (sp : Sp) : V → V → Hp → VK → Prop
  | l {x y : V} {H : Hp} {Q : VK} : REqO K C sp false x y H Q → REqK K C sp x y H Q
  | r {a dx : Addr} {fs : List (Str × V)} {x : V} {H : Hp} {Q : VK} : H a = some (.ins C dx fs) → Pl H x → sp [.ref a, x] H (fun v H' => ∃ c, v = .bl c ∧ Q (.bl c) H') (fun _ _ _ => False) → REqK K C sp x (.ref a) H Q
/-- the instance is asked back -/
theorem back_at {X : Cx} {k : Nat} {f C : Addr} {sp : Sp} {ps : List Str} {A : Around} {pins : List (Addr × Obj)} {s : Shared} {σ : L2.St} {H : Hp} {x : V} {v : Value} {a dx : Addr} {fs : List (Str × V)} {P : Bool → Hp → Prop} (E : EqC X.K C f) (Fn : FnG X.prog X.w X.K X.mg X.base k f ps sp) (hb : Binds X.K (fdOf X.K f) ps []) (hgu : A.guards = some []) (hfr : A.frames = X.A.frames) (hr : Room (k + 1) A)
    (hsb : ∀ n ∈ seven, PySem.W.subIn X.K (.ref C) (.type n) = some false) (I : Inv X pins σ H s) (rx : RelV x v) (e : H a = some (.ins C dx fs)) (pl : Pl H x) (q : sp [.ref a, x] H (fun v H' => ∃ c, v = .bl c ∧ P c H') (fun _ _ _ => False)) :
    wpAny (model X.prog X.w) A (richCompare .Eq v (.ref a)) (fun u s' => ∃ c, u = .bool c ∧ ∃ H', Inv X pins σ H' s' ∧ P c H') X.xe s := by
  obtain ⟨mA, O, _⟩ := ins_get I.hok e
  obtain ⟨od, J, _⟩ := O.look
  have KX := I.kIn
  have fin : wpAny (model X.prog X.w) A (call (.ref f) [.ref a, v]) (PySem.W.CmpBack (fun u s' => ∃ c, u = .bool c ∧ ∃ H', Inv X pins σ H' s' ∧ P c H')) X.xe s := by
    refine wpAny_mono (run_at Fn hgu hfr (hr.mono (Nat.le_succ _)) hb I (.cons (show L2.RelV (.ref a) (.ref a) from rfl) (.cons rx .nil)) q) (fun u' s' hu => ?_) fun _ _ z => z
    obtain ⟨w', H', I', rw', c, rfl, q'⟩ := hu
    obtain rfl : u' = Value.bool c := rw'
    exact ⟨c, rfl, H', I', q'⟩
  have noi : ∀ n ∈ seven, NoI X.prog X.w n a s := fun n hn A E Q q => by
    have L : PySem.W.Looks (model X.prog X.w) s.heap (isSubtype (.ref C) (.type n)) false := PySem.W.looks_subIn KX (hsb n hn)
    have L2 : PySem.W.Looks (model X.prog X.w) s.heap (isInstance (.ref a) (.type n)) false := J.type.andThen L
    exact L2.here q
  have hu := hr.units0
  cases pl with
  | non =>
    cases rx
    exact cmp_back hu KX J (Ta := "NoneType") rfl (hsb _ (by decide +kernel)) PySem.F.slot_NoneType_eq (fun Q' q' => PySem.call_gives PySem.F.slot_NoneType_eq rfl PySem.F.entry_NoneType_eq (PySem.F.args_NoneType_eq_2 _ _) (SeqAt.NoneType___eq___none_ref_0 a) q') E.eq E.fn fin
  | bl b =>
    cases rx
    exact cmp_back hu KX J (Ta := "bool") rfl (hsb _ (by decide +kernel)) PySem.F.slot_bool_eq (fun Q' q' => call_meetsIn PySem.F.slot_bool_eq rfl PySem.F.entry_int_eq (PySem.F.args_int_eq_2 _ _) (bool_back b a C dx) ⟨O.obj, q'⟩) E.eq E.fn fin
  | int i =>
    obtain ⟨t, rfl⟩ := rx
    exact cmp_back hu KX J (typeIs_int s i t) (hsb _ (by decide +kernel)) PySem.F.slot_int_eq (fun Q' q' => call_meetsIn PySem.F.slot_int_eq (typeIs_int s i t) PySem.F.entry_int_eq (PySem.F.args_int_eq_2 _ _) (int_back i t a C dx) ⟨O.obj, q'⟩) E.eq E.fn fin
  | str z =>
    obtain ⟨t, rfl⟩ := rx
    exact cmp_back hu KX J (typeIs_str s z t) (hsb _ (by decide +kernel)) PySem.F.slot_str_eq (fun Q' q' => call_meetsIn PySem.F.slot_str_eq (typeIs_str s z t) PySem.F.entry_str_eq (PySem.F.args_str_eq_2 _ _) (str_back z t a C dx) ⟨O.obj, q'⟩) E.eq E.fn fin
  | @lst p xs ep =>
    obtain rfl : v = Value.ref p := rx
    obtain ⟨its, n, r, ho, hz⟩ := I.lst ep
    exact cmp_back hu KX J ⟨_, ho, rfl⟩ (hsb _ (by decide +kernel)) PySem.F.slot_list_eq (fun Q' q' => call_meetsIn PySem.F.slot_list_eq ⟨_, ho, rfl⟩ PySem.F.entry_list_eq (PySem.F.args_list_eq_2 _ _) (list_back p a its.toArray n) ⟨ho, noi _ (by decide +kernel), q'⟩) E.eq E.fn fin
  | @tup p xs ep =>
    obtain rfl : v = Value.ref p := rx
    obtain ⟨its, r, ht, hz⟩ := I.tuple (SqT.of ep)
    obtain ⟨⟨cls, dd, data, sl⟩, ho, hc, n, hd⟩ := ht
    simp only at hc hd
    subst hc hd
    exact cmp_back hu KX J ⟨_, ho, rfl⟩ (hsb _ (by decide +kernel)) PySem.F.slot_tuple_eq (fun Q' q' => call_meetsIn PySem.F.slot_tuple_eq ⟨_, ho, rfl⟩ PySem.F.entry_tuple_eq (PySem.F.args_tuple_eq_2 _ _) (tuple_back p a its.toArray n dd sl) ⟨ho, noi _ (by decide +kernel), q'⟩) E.eq E.fn fin
  | @dict p kvs ep =>
    obtain rfl : v = Value.ref p := rx
    have ty := dict_typeIs I (DGet.k (k := Sum.inl 0) ep)
    obtain ⟨o, ho, hc⟩ := id ty
    exact cmp_back hu KX J ty (hsb _ (by decide +kernel)) PySem.F.slot_dict_eq (fun Q' q' => call_meetsIn PySem.F.slot_dict_eq ty PySem.F.entry_dict_eq (PySem.F.args_dict_eq_2 _ _) (dict_back p a o) ⟨ho, noi _ (by decide +kernel), q'⟩) E.eq E.fn fin
theorem op_eqK {X : Cx} {k : Nat} {f C : Addr} {sp : Sp} {ps : List Str} (E : EqC X.K C f) (Fn : FnG X.prog X.w X.K X.mg X.base k f ps sp) (hb : Binds X.K (fdOf X.K f) ps []) (hgu : X.A.guards = some []) (hr : Room (k + 1) X.A)
    (hsb : ∀ n ∈ seven, PySem.W.subIn X.K (.ref C) (.type n) = some false) : OpR X (compareOp .Eq) (REqK X.K C sp) := by
  intro pins s σ H x y v u Q I rx ry h
  cases h with
  | l q => exact op_eqO E Fn hb hgu hr pins s σ H _ _ v u Q I rx ry q
  | @r a dx fs _ _ _ e pl q =>
    obtain rfl : u = Value.ref a := ry
    refine wpAny_mono (back_at (P := fun c H' => Q (.bl c) H') E Fn hb hgu rfl hr hsb I rx e pl q) (fun u' s' z => ?_) fun _ _ z => z
    obtain ⟨c, rfl, H', I', q'⟩ := z
    exact ⟨.bl c, H', I', rfl, q'⟩
end Wk
set_option maxRecDepth 100000
set_option maxHeartbeats 4000000
namespace Wk
open PySem PySem.Spec PyProof.Rows L2
section
variable {K : PySem.W.Frag} {σ : L2.St} {H D : Hp} {R : Cells} {Q : VK} {ta tb te : TE}
theorem se_lrg (h : ta σ H fun x H1 => tb σ H1 fun y H2 => ∃ i j, x = .int i ∧ y = .int j ∧ RgOk i j ∧ AlD (.lst (rgV i j)) H2 Q) : tLstRg (tRg2 ta tb) σ H Q := h
theorem lrg_mk {i j : Int} (h : RgOk i j) (q : AlD (.lst (rgV i j)) H Q) : ∃ i' j', V.int i = .int i' ∧ V.int j = .int j' ∧ RgOk i' j' ∧ AlD (.lst (rgV i' j')) H Q := ⟨i, j, rfl, rfl, h, q⟩
end
end Wk
set_option maxRecDepth 100000
set_option maxHeartbeats 4000000
namespace Wk
open PySem PySem.Spec PyProof.Rows L2
section
variable {σ : L2.St} {H D : Hp} {R : Cells} {Q : VK} {td ty tx : TE} {a p : Addr} {kvs : List (Key × V)}
def SdP (a : Addr) (y z : V) (H : Hp) (Q : VK) : Prop := ∃ (kvs : List (Key × V)) (k : Key), H a = some (.dK kvs) ∧ y = kV k ∧ kvs.length < sizeLine ∧ (∀ v, valV kvs k = some v → Q v H) ∧ (valV kvs k = none → Q z (upd H a (.dK (putK kvs k z))))
theorem se_dsetd (h : td σ H fun x H1 => ∃ a, x = .ref a ∧ IsD H1 a ∧ ty σ H1 fun y H2 => tx σ H2 fun z H3 => SdP a y z H3 Q) : tDSetd td ty tx σ H Q := h
theorem sd_a {N : Addr → Prop} (e : H a = some (.dK kvs)) (h : N a) : ∃ b, V.ref a = .ref b ∧ IsD H b ∧ N b := ⟨a, rfl, .inl ⟨kvs, .inl e⟩, h⟩
theorem sd_now {y z : V} {k : Key} (hi : HI H ((a, .dK kvs) :: R) D) (ey : y = kV k) (hl : kvs.length < 1000000) (old : ∀ v, valV kvs k = some v → Q v H) (new : valV kvs k = none → ∀ H', HI H' ((a, .dK (putK kvs k z)) :: R) D → Q z H') : SdP a y z H Q :=
  ⟨kvs, k, hi.get (List.mem_cons_self ..), ey, Nat.lt_of_lt_of_le hl (by rw [sizeLine_eq]; decide), old, fun h => new h _ hi.set⟩
theorem list_dK_mk (e : H p = some (.dK kvs)) (q : AlM (.lst (kvs.map fun kv => kV kv.1)) H Q) : rListD [.ref p] H Q := ⟨p, kvs, rfl, e, q⟩
end
/-- at a: o, a cell or data -/
def At (R : Cells) (D : Hp) (a : Addr) (o : HO) : Prop := ((a, o) : Addr × HO) ∈ R ∨ D a = some o
section
variable {R R' : Cells} {H D D' : Hp} {a : Addr} {o : HO}
theorem At.get (h : At R D a o) (hI : HI H R D) : H a = some o := h.elim (fun m => hI.get m) fun e => hI.dat e
theorem At.mono (h : At R D a o) (x : Ex D D') : At R D' a o := h.imp id fun e => x _ _ e
theorem At.sub (h : At R D a o) (s : ∀ q ∈ R, q ∈ R') : At R' D a o := h.imp (fun m => s _ m) id
theorem At.sq {xs : List V} (h : At R D a (.lst xs)) : Sq3 R D a xs := h.elim (fun m => .c m) fun e => .l e
end
end Wk
set_option maxRecDepth 100000
set_option maxHeartbeats 4000000
namespace Wk
open PySem PySem.Spec PyProof.Rows L2
/-- the list at a as it stands at each turn, each item in a new pair, counted from k -/
def IteF (K : PySem.W.Frag) (a : Addr) (k : Int) : It :=
  ⟨fun i H => ∃ (xs : List V) (x : V), SqL K H a xs ∧ xs[i]? = some x, fun i H v H' => ∃ T x, v = .ref T ∧ H T = none ∧ H' = upd H T (.tup [.int (k + (i : Nat)), x]) ∧ ∀ xs, SqL K H a xs → xs[i]? = some x, fun i H => ∃ xs : List V, SqL K H a xs ∧ xs.length = i⟩
def iEnumF (K : PySem.W.Frag) (ta tk : TA) : TI := fun σ H R => ta σ H fun vs H1 => tk σ H1 fun zs H2 => ∃ a xs k, vs = [.ref a] ∧ zs = [.int k] ∧ (-1000 ≤ k ∧ k ≤ 1000) ∧ SqL K H2 a xs ∧ R (IteF K a k) H2
section
variable {K : PySem.W.Frag} {σ : L2.St} {H D0 : Hp} {ta tk tl : TA} {te : TE} {R : It → Hp → Prop} {R0 : Cells} {a b : Addr} {xs ys : List V} {g : TG} {tb : TS} {D : Ends} {n : Nat}
theorem it_enumF (h : ta σ H fun vs H1 => tk σ H1 fun zs H2 => ∃ a xs k, vs = [.ref a] ∧ zs = [.int k] ∧ (-1000 ≤ k ∧ k ≤ 1000) ∧ SqL K H2 a xs ∧ R (IteF K a k) H2) : iEnumF K ta tk σ H R := h
theorem enumF_mk {k : Int} {P : Addr → Int → Prop} (h1 : H a = some (.lst xs)) (hk : -1000 ≤ k ∧ k ≤ 1000) (q : P a k) : ∃ a' xs k', [V.ref a] = [.ref a'] ∧ [V.int k] = [.int k'] ∧ (-1000 ≤ k' ∧ k' ≤ 1000) ∧ SqL K H a' xs ∧ P a' k' := ⟨a, xs, k, rfl, rfl, hk, SqL.of h1, q⟩
theorem it_rng3 (h : ta σ H fun vs H1 => ∃ (i j c : Int) (n : Nat), vs = [.int i, .int j, .int c] ∧ RgC i j c n ∧ R (Itc i c n) H1) : iRng3 ta σ H R := h
theorem rng3_dn {i j : Int} {P : Int → Int → Nat → Prop} (h : (-(2 ^ 62) ≤ i ∧ i < 2 ^ 62) ∧ -(2 ^ 62) ≤ j ∧ j < 2 ^ 62) (q : P i (-1) (i - j).toNat) : ∃ (i' j' c : Int) (n : Nat), [V.int i, V.int j, V.int (-1)] = [.int i', .int j', .int c] ∧ RgC i' j' c n ∧ P i' c n :=
  ⟨i, j, -1, _, rfl, RgC.neg h.1.1 h.1.2 h.2.1 h.2.2, q⟩
end
end Wk
set_option maxRecDepth 100000
set_option maxHeartbeats 4000000
namespace Wk
open PySem PySem.Spec PyProof.Rows L2
section
variable {J : It} {n : Nat} {g : TG} {tb : TS} {σ : L2.St} {H D0 : Hp} {R0 : Cells} {tt : TT} {te : TE} {vs : List Nat} {Q : VK} {d : Addr} {o : Obj} {kvs : List (Key × V)} {td : TE} {R : It → Hp → Prop}
theorem it_items (h : td σ H fun x H1 => ∃ d o kvs, x = .ref d ∧ H1 d = some (.frz o (.dK kvs)) ∧ R (Iti d o kvs) H1) : iItems td σ H R := h
end
end Wk
set_option maxRecDepth 100000
set_option maxHeartbeats 4000000
namespace Wk
open PySem PySem.Spec PyProof.Rows L2
/-- a short text is shown -/
def ShS (K : PySem.W.Frag) (H : Hp) (v : V) (n k : Nat) : Prop := ∃ t m, Shw K H v t m ∧ t.length ≤ n ∧ m ≤ k
def ShLs (K : PySem.W.Frag) (H : Hp) (vs : List V) (n k : Nat) : Prop := ∃ ts m, ShwL K H vs ts m ∧ ts.length = vs.length ∧ (∀ t ∈ ts, t.length ≤ n) ∧ m ≤ k
section
variable {K : PySem.W.Frag} {H H' D D' : Hp} {v : V} {n k n' k' : Nat}
theorem ShS.mono (h : ShS K H v n k) (x : Ex H H') : ShS K H' v n k := let ⟨t, m, a, b, c⟩ := h; ⟨t, m, a.mono x, b, c⟩
theorem ShLs.nil : ShLs K H [] n k := ⟨[], 0, .nil, rfl, all_n, Nat.zero_le _⟩
theorem ShLs.cons {vs : List V} (h : ShS K H v n k) (l : ShLs K H vs n k) : ShLs K H (v :: vs) n k := by
  obtain ⟨t, m, a, b, c⟩ := h
  obtain ⟨ts, m', d, e, f, g⟩ := l
  exact ⟨t :: ts, _, .cons a d, by rw [List.length_cons, e]; rfl, all_c b f, by omega⟩
theorem ShLs.of : ∀ {vs : List V}, (∀ v ∈ vs, ShS K H v n k) → ShLs K H vs n k
  | [], _ => .nil
  | v :: vs, h => .cons (h v (List.mem_cons_self ..)) (ShLs.of fun u hu => h u (List.mem_cons_of_mem _ hu))
theorem len_sum {ts : List Str} {n : Nat} (h : ∀ t ∈ ts, t.length ≤ n) : (ts.map (·.length)).sum ≤ n * ts.length := by
  induction ts with
  | nil => exact Nat.zero_le _
  | cons t ts ih =>
    have h1 := h t (List.mem_cons_self ..)
    have h2 := ih fun u hu => h u (List.mem_cons_of_mem _ hu)
    simp only [List.map_cons, List.sum_cons, List.length_cons, Nat.mul_succ]
    omega
theorem tupleText_len (ts : List Str) : (tupleText ts).length ≤ (ts.map (·.length)).sum + 2 * ts.length + 3 := by
  have jl := join_len (Str.ofString ", ") ts
  have e1 : (Str.ofString ", ").length = 2 := rfl
  have e2 : (Str.ofString "(").length = 1 := rfl
  have e3 : (Str.ofString ")").length = 1 := rfl
  have e4 : (Str.ofString ",)").length = 2 := rfl
  rw [e1] at jl
  match ts, jl with
  | [], jl => exact Nat.le_trans (show (tupleText []).length ≤ 3 by decide +kernel) (by omega)
  | [x], jl =>
    show ((Str.ofString "(") ++ x ++ (Str.ofString ",)")).length ≤ _
    rw [len_app, len_app, e2, e4]
    simp only [List.length_cons, List.length_nil, List.map_cons, List.map_nil, List.sum_cons, List.sum_nil]
    omega
  | x :: y :: r, jl =>
    show ((Str.ofString "(") ++ Str.join (Str.ofString ", ") (x :: y :: r) ++ (Str.ofString ")")).length ≤ _
    rw [len_app, len_app, e2, e3]
    omega
theorem dictText_len (ts : List Str) : (dictText ts).length ≤ (ts.map (·.length)).sum + 2 * ts.length + 3 := by
  have jl := join_len (Str.ofString ", ") ts
  have e1 : (Str.ofString ", ").length = 2 := rfl
  have e2 : (Str.ofString "{").length = 1 := rfl
  have e3 : (Str.ofString "}").length = 1 := rfl
  rw [e1] at jl
  show ((Str.ofString "{") ++ Str.join (Str.ofString ", ") ts ++ (Str.ofString "}")).length ≤ _
  rw [len_app, len_app, e2, e3]
  omega
theorem ShS.non : ShS K H .non 4 0 := ⟨_, _, .non, by decide +kernel, Nat.le_refl _⟩
theorem ShS.bl (b : Bool) : ShS K H (.bl b) 5 0 := by cases b <;> exact ⟨_, _, .bl _, by decide +kernel, Nat.le_refl _⟩
theorem ShS.int {i : Int} (h : i.natAbs < 10 ^ 30) : ShS K H (.int i) 31 0 := ⟨_, _, .int i (log2_small (by omega)), (tst h).1, Nat.le_refl _⟩
theorem ShS.str {z : Str} (h : Sg z) : ShS K H (.str z) (10 * z.length + 2) 0 := ⟨_, _, .str z, repr_len h, Nat.le_refl _⟩
theorem ShS.exc {a d C t1 : Addr} {z : Str} (e : H a = some (exq a C (some d) t1)) (e2 : H t1 = some (.tup [.str z])) (q : ExQ K C) (h : Sg z) (l : z.length ≤ 60) : ShS K H (.ref a) 800 1 := by
  refine ⟨_, _, .exc e e2 q, ?_, Nat.le_refl _⟩
  have h1 := q.hl
  have h2 := repr_len h
  rw [len_app, len_app, len_app]
  have e2 : (Str.ofString "(").length = 1 := rfl
  have e3 : (Str.ofString ")").length = 1 := rfl
  omega
theorem ShS.lst {a : Addr} {vs : List V} (e : H a = some (.lst vs)) (l : ShLs K H vs n k) : ShS K H (.ref a) (n * vs.length + 2 * vs.length + 3) (k + 1) := by
  obtain ⟨ts, m, a, b, c, d⟩ := l
  refine ⟨_, _, .lst e a, ?_, by omega⟩
  have h1 := len_sum c
  have h2 := PySem.listText_len_le ts
  rw [b] at h1 h2
  omega
theorem ShS.tup {a : Addr} {vs : List V} (e : H a = some (.tup vs)) (l : ShLs K H vs n k) : ShS K H (.ref a) (n * vs.length + 2 * vs.length + 3) (k + 1) := by
  obtain ⟨ts, m, a, b, c, d⟩ := l
  refine ⟨_, _, .tup e a, ?_, by omega⟩
  have h1 := len_sum c
  have h2 := tupleText_len ts
  rw [b] at h1 h2
  omega
/-- a small key -/
def SmK : Key → Prop
  | .inl i => i.natAbs < 10 ^ 30
  | .inr z => Sg z ∧ z.length ≤ 60
theorem SmK.kt {q : Key} (h : SmK q) : ∃ t, KT q t ∧ t.length ≤ 700 := by
  cases q with
  | inl i => exact ⟨_, .int i (log2_small (by have : i.natAbs < 10 ^ 30 := h; omega)), Nat.le_trans (tst (i := i) h).1 (by decide)⟩
  | inr z => exact ⟨_, .str z, by have := repr_len h.1; have := h.2; omega⟩
theorem shwK_of : ∀ {kvs : List (Key × V)}, (∀ p ∈ kvs, SmK p.1 ∧ ShS K H p.2 n k) → ∃ ts m, ShwK K H kvs ts m ∧ ts.length = kvs.length ∧ (∀ t ∈ ts, t.length ≤ n + 702) ∧ m ≤ k
  | [], _ => ⟨[], 0, .nil, rfl, all_n, Nat.zero_le _⟩
  | (q, v) :: kvs, h => by
    obtain ⟨ts, m, a, b, c, d⟩ := shwK_of (kvs := kvs) fun p hp => h p (List.mem_cons_of_mem _ hp)
    obtain ⟨h1, t, m1, h2, h3, h4⟩ := h _ (List.mem_cons_self ..)
    obtain ⟨kt, h5, h6⟩ := h1.kt
    refine ⟨_ :: ts, _, .cons h5 h2 a, by rw [List.length_cons, b]; rfl, all_c ?_ c, by omega⟩
    rw [len_app, len_app]
    have e2 : (Str.ofString ": ").length = 2 := rfl
    omega
theorem ShS.dict {a : Addr} {kvs : List (Key × V)} (e : H a = some (.dK kvs)) (l : ∀ p ∈ kvs, SmK p.1 ∧ ShS K H p.2 n k) : ShS K H (.ref a) ((n + 702) * kvs.length + 2 * kvs.length + 3) (k + 1) := by
  obtain ⟨ts, m, a, b, c, d⟩ := shwK_of l
  refine ⟨_, _, .dict e a, ?_, by omega⟩
  have h1 := len_sum c
  have h2 := dictText_len ts
  rw [b] at h1 h2
  omega
/-- a flat small value -/
inductive Fl : V → Prop
  | non : Fl .non
  | bl (b : Bool) : Fl (.bl b)
  | int {i : Int} (h : i.natAbs < 10 ^ 30) : Fl (.int i)
  | str {z : Str} (h : Sg z) (l : z.length ≤ 60) : Fl (.str z)
/-- an odd cell: a list or a dict of at most m flat values -/
inductive OkO (m : Nat) : HO → Prop
  | lst {xs : List V} (h : ∀ x ∈ xs, Fl x) (l : xs.length ≤ m) : OkO m (.lst xs)
  | dict {kvs : List (Key × V)} (h : ∀ p ∈ kvs, SmK p.1 ∧ Fl p.2) (l : kvs.length ≤ m) : OkO m (.dK kvs)
theorem OkO.ld {m : Nat} {o : HO} (h : OkO m o) : LD o := by
  cases h with
  | lst a b => exact .inl ⟨_, rfl⟩
  | dict a b => exact .inr ⟨_, rfl⟩
/-- a thing that is data, or one of the odd cells; P of its type -/
inductive Odt (K : PySem.W.Frag) (P : Value → Prop) (as : List Addr) (D : Hp) : V → Prop
  | dat {v : V} {k : Knd} {t : Value} (kn : Kn K D v k) (ty : Ty K D v t) (p : P t) (s : ShS K D v 30000 20) (z : ∀ z, v = .str z → TxtOk z) (nl : k.is "list" = false) (nd : k.is "dict" = false) : Odt K P as D v
  | cell {a : Addr} (m : a ∈ as) : Odt K P as D (.ref a)
theorem Odt.mono {P : Value → Prop} {as : List Addr} (h : Odt K P as D v) (x : Ex D D') : Odt K P as D' v := by
  cases h with
  | dat kn ty p s z a b => exact .dat (kn.mono x) (ty.mono x) p (s.mono x) z a b
  | cell m => exact .cell m
theorem Odt.sub {P : Value → Prop} {as bs : List Addr} (h : Odt K P as D v) (x : ∀ a ∈ as, a ∈ bs) : Odt K P bs D v := by
  cases h with
  | dat kn ty p s z a b => exact .dat kn ty p s z a b
  | cell m => exact .cell (x _ m)
theorem Odt.imp {P P' : Value → Prop} {as : List Addr} (h : Odt K P as D v) (x : ∀ t, P t → P' t) : Odt K P' as D v := by
  cases h with
  | dat kn ty p s z a b => exact .dat kn ty (x _ p) s z a b
  | cell m => exact .cell m
section
variable {P : Value → Prop} {OC R : Cells} {m : Nat}
theorem mem_fst {OC : Cells} {a : Addr} (h : a ∈ OC.map (·.1)) : ∃ o, (a, o) ∈ OC := by
  obtain ⟨c, hc, rfl⟩ := List.mem_map.mp h
  exact ⟨c.2, hc⟩
theorem Odt.ty (h : Odt K P (OC.map (·.1)) D v) (ok : ∀ c ∈ OC, OkO m c.2) (s : ∀ c ∈ OC, c ∈ R) (p1 : P (.type "list")) (p2 : P (.type "dict")) : ∃ t, TyC K R D v t ∧ P t := by
  cases h with
  | dat kn ty p s z a b => exact ⟨_, .inl ty, p⟩
  | cell hm =>
    obtain ⟨o, hc⟩ := mem_fst hm
    have hs := s _ hc
    have l : LD o := (ok _ hc).ld
    rcases l with ⟨xs, rfl⟩ | ⟨kvs, rfl⟩
    · exact ⟨_, .inr (.inl ⟨_, xs, rfl, hs, rfl⟩), p1⟩
    · exact ⟨_, .inr (.inr ⟨_, kvs, rfl, hs, rfl⟩), p2⟩
end
end
/-- a cell in the midst is changed -/
theorem HI.setM {H D : Hp} {A B : Cells} {a : Addr} {o u : HO} (h : HI H (A ++ (a, o) :: B) D) : HI (upd H a u) (A ++ (a, u) :: B) D := by
  have h1 := h.perm (List.perm_middle (l₁ := A) (l₂ := B) (a := (a, o)))
  exact (h1.set (u := u)).perm List.perm_middle.symm
theorem HI.front {H D : Hp} {A B : Cells} {c : Addr × HO} (h : HI H (A ++ c :: B) D) : HI H (c :: (A ++ B)) D := h.perm List.perm_middle
theorem HI.back {H D : Hp} {A B : Cells} {c : Addr × HO} (h : HI H (c :: (A ++ B)) D) : HI H (A ++ c :: B) D := h.perm List.perm_middle.symm
theorem HI.up4 {H D : Hp} {R : Cells} {x y z u v : Addr × HO} (h : HI H (x :: y :: z :: u :: v :: R) D) : HI H (v :: x :: y :: z :: u :: R) D := HI.front (A := [x, y, z, u]) h
/-- one more item, one more key -/
theorem OkO.app {m : Nat} {xs : List V} {v : V} (h : OkO m (.lst xs)) (f : Fl v) : OkO (m + 1) (.lst (xs ++ [v])) := by
  cases h with
  | lst a b =>
    refine .lst (fun x hx => ?_) (by rw [List.length_append]; exact Nat.succ_le_succ b)
    rcases List.mem_append.mp hx with h | h
    · exact a x h
    · rw [List.mem_singleton.mp h]
      exact f
/-- a display that stays a cell -/
def tDispM (trs : List (TE × TE)) : TE := tDisp trs
theorem se_dispM {σ : L2.St} {H : Hp} {Q : VK} {D : Hp} {R : Cells} {trs : List (TE × TE)} (hi : HI H R D) (h : ∀ p H1, HI H1 ((p, .dK []) :: R) D → tPairs trs σ H1 fun ps H2 => DispP p ps H2 Q) : tDispM trs σ H Q := fun p hp => h p _ (hi.new hp)
theorem disp_nowM {H : Hp} {Q : VK} {p : Addr} {ps : List (V × V)} {kvs : List (Key × V)} {R : Cells} {D : Hp} (hi : HI H ((p, .dK []) :: R) D) (e : keysOf ps = some kvs) (hl : kvs.length ≤ 15) (k : ∀ H', HI H' ((p, .dK (mergeK [] kvs)) :: R) D → Q (.ref p) H') : DispP p ps H Q :=
  ⟨hi.get (List.mem_cons_self ..), kvs, keysOf_ok e, hl, k _ (hi.set (u := .dK (mergeK [] kvs)))⟩
/-- two tuples that say the same: a word and an odd thing, or data -/
def TwoS (K : PySem.W.Frag) (P : Value → Prop) (as : List Addr) (D : Hp) (p1 p2 : Addr) : Prop := (∃ (w : Str) (v : V), D p1 = some (.tup [.str w, v]) ∧ D p2 = some (.tup [.str w, v]) ∧ Sg w ∧ w.length ≤ 60 ∧ Odt K P as D v) ∨
  ∃ t n, Shw K D (.ref p1) t n ∧ Shw K D (.ref p2) t n ∧ t.length ≤ 100000 ∧ n ≤ 40
section
variable {K : PySem.W.Frag} {H H' D D' : Hp} {P : Value → Prop} {OC R : Cells} {m : Nat} {p1 p2 : Addr} {as : List Addr}
theorem TwoS.mono (h : TwoS K P as D p1 p2) (x : Ex D D') : TwoS K P as D' p1 p2 := by
  rcases h with ⟨w, v, a, b, c, d, e⟩ | ⟨t, n, a, b, c, d⟩
  · exact .inl ⟨w, v, x _ _ a, x _ _ b, c, d, e.mono x⟩
  · exact .inr ⟨t, n, a.mono x, b.mono x, c, d⟩
end
/-- the list at pp, a cell or data -/
def PAt (R : Cells) (D : Hp) (pp : Addr) (xs : List V) : Prop := ((pp, HO.lst xs) : Addr × HO) ∈ R ∨ D pp = some (.lst xs)
theorem PAt.h {R : Cells} {D H : Hp} {pp : Addr} {xs : List V} (m : PAt R D pp xs) (hI : HI H R D) : H pp = some (.lst xs) := m.elim hI.get hI.dat
theorem st_par3 {i j l : Nat} {t : TA} {D : Ends} {σ : L2.St} {H : Hp} (h : t σ H fun vs H1 => ∃ u v w, vs = [u, v, w] ∧ D.nx (((σ.set i (some u)).set j (some v)).set l (some w)) H1) : tPar3 i j l t D σ H := h
theorem par3_mk {x y z : V} {P : V → V → V → Prop} (h : P x y z) : ∃ u v w, [x, y, z] = [u, v, w] ∧ P u v w := ⟨x, y, z, rfl, h⟩
end Wk
set_option maxRecDepth 100000
set_option maxHeartbeats 4000000
namespace Wk
open PySem PySem.Spec PyProof.Rows L2 PySem.SeqAt
open AutoSeq1 (wpAny_loadPart')
open MeetsSeq MeetsSeq2 MeetsSeq3 SeqRoads2
abbrev EqRel := V → Addr → Hp → (Bool → Hp → Prop) → Prop
def EqRun (X : Cx) (n : Nat) (r : EqRel) : Prop := ∀ (A : Around) (pins : List (Addr × Obj)) (s : Shared) (σ : L2.St) (H : Hp) (y : V) (a : Addr) (v : Value) (P : Bool → Hp → Prop), A.guards = some [] → A.frames = X.A.frames → Room n A → Inv X pins σ H s → RelV y v → r y a H P →
  wpAny (model X.prog X.w) A (eqBool v (.ref a)) (fun b s' => ∃ H', Inv X pins σ H' s' ∧ P b H') X.xe s
theorem EqRun.or {X : Cx} {n : Nat} {r r' : EqRel} (h : EqRun X n r) (h' : EqRun X n r') : EqRun X n (fun y a H P => r y a H P ∨ r' y a H P) := fun A pins s σ H y a v P hg hf hr I rv q => q.elim (h A pins s σ H y a v P hg hf hr I rv) (h' A pins s σ H y a v P hg hf hr I rv)
theorem EqRun.mono {X : Cx} {n m : Nat} {r : EqRel} (h : EqRun X n r) (l : n ≤ m) : EqRun X m r := fun A pins s σ H y a v P hg hf hr I rv q => h A pins s σ H y a v P hg hf (hr.mono l) I rv q
end Wk
set_option maxRecDepth 100000
set_option maxHeartbeats 4000000
namespace Wk
open PySem PySem.Spec PyProof.Rows L2
inductive RFmtO (C : Addr) (sp : Sp) : V → Hp → VK → Prop
  | b {x : V} {H : Hp} {Q : VK} : RFmt x H Q → RFmtO C sp x H Q
  | o {a dx : Addr} {fs : List (Str × V)} {H : Hp} {Q : VK} : H a = some (.ins C dx fs) → sp [.ref a] H (fun v H' => ∃ z, v = .str z ∧ Q (.str z) H') (fun _ _ _ => False) → RFmtO C sp (.ref a) H Q
def tFmtO (C : Addr) (sp : Sp) (te : TE) : TE := fun σ H Q => te σ H fun x H1 => RFmtO C sp x H1 Q
theorem se_fmtO {C : Addr} {sp : Sp} {te : TE} {σ : L2.St} {H : Hp} {Q : VK} (h : te σ H fun x H1 => RFmtO C sp x H1 Q) : tFmtO C sp te σ H Q := h
end Wk
set_option maxRecDepth 100000
set_option maxHeartbeats 4000000
namespace Wk
open PySem PySem.Spec PyProof.Rows L2
section
open PySem.SeqAt PySem.AutoSeq1 PySem.MeetsSeq
theorem dict_eq_declines_str (l : Addr) (o : Obj) (b : Str) (u : Tok) (hs : (l == sysModules) = false) :
    Meets (Builtin.«dict.__eq__» ⟨[.ref l, .str b u], []⟩) (fun _ R s => s.heap.get? l = some o ∧ o.cls = .type "dict" ∧ R (.ok (.ret .notImplemented)) s) :=
  .of_wp fun prog w A R s h => by
    obtain ⟨hp, g, d, tk, os⟩ := s
    obtain ⟨hl, hc, h⟩ := h
    have f1 := PySem.F.sub_str_dict
    wp_walk using wpAny_loadPart' hl
    exact ⟨_, rfl, h⟩
theorem str_eq_declines_dict (b : Str) (u : Tok) (l : Addr) (c : Value) (es : Array DictEntry) (ep : Nat) (dd : Option Addr) (sl : Array (Option Value)) :
    Meets (Builtin.«str.__eq__» ⟨[.str b u, .ref l], []⟩) (fun _ R s => s.heap.get? l = some { cls := c, dict := dd, data := .dict es ep, slots := sl } ∧ R (.ok (.ret .notImplemented)) s) :=
  .of_wp fun prog w A R s h => by obtain ⟨hp, g, d, tk, os⟩ := s; obtain ⟨hl, h⟩ := h; wp_walk using wpAny_loadPart' hl, wpAny_load hl; exact ⟨_, rfl, h⟩
theorem rcAt_str_dict {A : Around} {s : Shared} {l : Addr} {es : Array DictEntry} {ep : Nat} {dd : Option Addr} {sl : Array (Option Value)} (b : Str) (u : Tok) (hs : (l == sysModules) = false) (ho : s.heap.get? l = some { cls := .type "dict", dict := dd, data := .dict es ep, slots := sl }) (hu : A.units < cLine) : RcAt A s (.str b u) (.ref l) false := fun prog w E Q h => by
  exact rc_eq_decline_or (k := false) (typeIs_str s b u) ⟨_, ho, rfl⟩ (by decide) PySem.F.sub_dict_str PySem.F.slot_str_eq PySem.F.slot_dict_eq_refl
    (fun _ hq => call_meets PySem.F.slot_str_eq (typeIs_str s b u) PySem.F.entry_str_eq (PySem.F.args_str_eq_2 _ _) (str_eq_declines_dict b u l (.type "dict") es ep dd sl) ⟨ho, hq⟩)
    (fun _ hq => call_meets PySem.F.slot_dict_eq_refl ⟨_, ho, rfl⟩ PySem.F.entry_dict_eq (PySem.F.args_dict_eq_2 _ _) (dict_eq_declines_str l _ b u hs) ⟨ho, rfl, hq⟩)
    (fun _ hq => wpAny_of_eq (rfl : isSame (.str b u) (.ref l) = pure false) hq) (.inr hu) h
end
def rEqKd : V → V → Hp → VK → Prop := fun x y H Q => ∃ z a kvs, x = .str z ∧ y = .ref a ∧ H a = some (.dK kvs) ∧ Q (.bl false) H
theorem op_eqKd {X : Cx} (hu : X.A.units + 64 < cLine) : OpR X (compareOp .Eq) rEqKd := by
  intro pins s σ H x y v u Q I rx ry h
  obtain ⟨z, a, kvs, rfl, rfl, e, q⟩ := h
  obtain ⟨t, rfl⟩ := rx
  obtain rfl : u = Value.ref a := ry
  obtain ⟨_, hs, vs, rel, o, es, ep, ho, hx, hdat, _⟩ := dk_of I.hok e
  obtain ⟨cls, dd, data, sl⟩ := o
  obtain ⟨hc, _⟩ := hx
  dsimp only at hc hdat
  subst hc hdat
  exact rcAt_str_dict z t hs ho (by omega) X.prog X.w _ _ ⟨.bl false, H, I, rfl, q⟩
theorem op_eqKC {X : Cx} {K : PySem.W.Frag} {k : Nat} {f C : Addr} {sp : Sp} {ps : List Str} (E : EqC K C f) (Fn : FnG X.prog X.w K X.mg X.base k f ps sp) (hb : Binds K (fdOf K f) ps []) (hgu : X.A.guards = some []) (hr : Room (k + 1) X.A)
    (hsb : ∀ n ∈ seven, PySem.W.subIn K (.ref C) (.type n) = some false) (hK : X.K = K) : OpR X (compareOp .Eq) (REqK K C sp) := by
  subst hK
  exact op_eqK E Fn hb hgu hr hsb
end Wk
set_option maxRecDepth 100000
set_option maxHeartbeats 400000
namespace Wk
open PySem PySem.Spec PyProof.Rows L2
/-- items that tell their place are unlike -/
theorem nodup_key {α β : Type} {ys : List α} (key : α → β) (f : Nat → β) (h : ∀ i y, ys[i]? = some y → key y = f i) (inj : ∀ i j, i < ys.length → j < ys.length → f i = f j → i = j) : ys.Nodup := by
  refine List.pairwise_iff_getElem.mpr fun i j hi hj hij e => ?_
  have k1 := h _ _ (List.getElem?_eq_getElem hi)
  have k2 := h _ _ (List.getElem?_eq_getElem hj)
  rw [e] at k1
  have := inj i j hi hj (k1.symm.trans k2)
  omega
/-- one more, that tells its place -/
theorem key_snoc {α β : Type} {ys : List α} {y : α} {key : α → β} {f : Nat → β} (h : ∀ i y, ys[i]? = some y → key y = f i) (e : key y = f ys.length) : ∀ i z, (ys ++ [y])[i]? = some z → key z = f i := by
  intro i z hz
  rcases Nat.lt_or_ge i ys.length with hl | hl
  · rw [List.getElem?_append_left hl] at hz
    exact h i z hz
  · rw [List.getElem?_append_right hl] at hz
    have h0 : i - ys.length = 0 := by
      have := (List.getElem?_eq_some_iff.mp hz).1
      simp at this
      omega
    rw [h0] at hz
    have : i = ys.length := by omega
    subst this
    cases hz
    exact e
theorem nodup_at {α β : Type} {W : List β} (hW : W.Nodup) {ys : List α} (key : α → Option β) (ix : Nat → Nat) (h : ∀ i y, ys[i]? = some y → key y = W[ix i]?) (hb : ∀ i, i < ys.length → ix i < W.length) (inj : ∀ i j, i < ys.length → j < ys.length → ix i = ix j → i = j) : ys.Nodup :=
  nodup_key key (fun i => W[ix i]?) h fun i j hi hj e => inj i j hi hj ((List.getElem?_inj (hb i hi) hW).mp e)
/-- a sign of a text, a text of a list, with its place -/
theorem RIx.sgnI {z : Str} {r : Int} {H : Hp} {Q : VK} (hl : z.length ≤ 1000000) (h0 : 0 ≤ r) (h1 : r < z.length) (q : ∀ c, c ∈ z.cps.toList → z.cps.toList[r.toNat]? = some c → Q (.str ⟨#[c]⟩) H) : RIx (.str z) (.int r) H Q := by
  have hn : r.toNat < z.cps.toList.length := by
    show r.toNat < z.length
    omega
  have e := List.getElem?_eq_getElem hn
  exact RIx.s (small_ok hl) ((atI_ofI h0).trans e) (q _ (List.getElem_mem hn) e)
theorem RIx.strI {p : Addr} {ys : List Str} {r : Int} {H : Hp} {Q : VK} (e : H p = some (.lst (ys.map V.str))) (h0 : 0 ≤ r) (h1 : r < ys.length) (q : ∀ y, y ∈ ys → ys[r.toNat]? = some y → Q (.str y) H) : RIx (.ref p) (.int r) H Q := by
  have hn : r.toNat < ys.length := by omega
  have g := List.getElem?_eq_getElem hn
  refine RIx.l e ((atI_ofI h0).trans ?_) (q _ (List.getElem_mem hn) g)
  rw [List.getElem?_map, g]
  rfl
theorem mid_at {a b : Str} {c k : Nat} (h : a.length = k) : (a ++ ⟨#[c]⟩ ++ b).cps.toList[k]? = some c := by
  have h2 : a.cps.toList.length = k := h
  rw [tl_app, tl_app, List.append_assoc, List.getElem?_append_right (by omega), h2, Nat.sub_self]
  rfl
end Wk
set_option maxRecDepth 100000
set_option maxHeartbeats 4000000
namespace Wk
open PySem PySem.Spec PyProof.Rows L2
def top (i : Nat) : Stmt := PySem.Challenge.pw_weekheads_k09_lists_of_sorts.main.body.getD i (.Pass ⟨0, 0, 0, 0⟩)
abbrev s__wall : Stmt := top 0
abbrev s_NoName_init : Stmt := inClass (top 4) 0
abbrev s_NoNumber_init : Stmt := inClass (top 5) 0
abbrev s_NoList_init : Stmt := inClass (top 6) 0
abbrev s_Doubled_init : Stmt := inClass (top 7) 0
abbrev s_NotThere_init : Stmt := inClass (top 8) 0
abbrev s_is_whole : Stmt := top 12
abbrev s_is_name : Stmt := top 13
abbrev s_need_name : Stmt := top 19
abbrev s_need_number : Stmt := top 20
abbrev s_Sort_init : Stmt := inClass (top 21) 0
abbrev s_Sort_eq : Stmt := inClass (top 21) 1
abbrev s_Sort_str : Stmt := inClass (top 21) 2
abbrev s_Sort_repr : Stmt := inClass (top 21) 3
abbrev s_Sort_name : Stmt := inClass (top 21) 4
abbrev s_Sort_kin : Stmt := inClass (top 21) 5
abbrev s_Sort_needs : Stmt := inClass (top 21) 6
abbrev s_Sort_keeps : Stmt := inClass (top 21) 7
abbrev s_Sort_bears : Stmt := inClass (top 21) 8
abbrev s_Sort_told : Stmt := inClass (top 21) 9
abbrev s_Sort_changed : Stmt := inClass (top 21) 10
abbrev s_are_sorts : Stmt := top 22
abbrev s_Sorts_init : Stmt := inClass (top 23) 0
abbrev s_Sorts_eq : Stmt := inClass (top 23) 1
abbrev s_Sorts_len : Stmt := inClass (top 23) 2
abbrev s_Sorts_names : Stmt := inClass (top 23) 3
abbrev s_Sorts_all_sorts : Stmt := inClass (top 23) 4
abbrev s_Sorts_kins : Stmt := inClass (top 23) 5
abbrev s_Sorts_of_kin : Stmt := inClass (top 23) 6
abbrev s_Sorts_told : Stmt := inClass (top 23) 7
abbrev s_Sorts_place_of : Stmt := inClass (top 23) 8
abbrev s_Sorts_by_name : Stmt := inClass (top 23) 9
abbrev s_Sorts_with_sort : Stmt := inClass (top 23) 10
abbrev s_l_cell : Stmt := top 25
abbrev s_l_box : Stmt := top 26
abbrev s_l_take : Stmt := top 27
abbrev s_l_names : Stmt := top 28
abbrev s_l_bound : Stmt := top 29
abbrev s_l_parts : Stmt := top 30
abbrev s_l_rows : Stmt := top 31
abbrev s_l_other : Stmt := top 32
abbrev s_l_made : Stmt := top 33
abbrev s_l_kins : Stmt := top 34
abbrev s_l_asked : Stmt := top 35
abbrev s_l_right : Stmt := top 36
abbrev s_law : Stmt := top 37
def d__wall : He.DefD := ⟨("_wall", none), "_wall", "_wall", defArgs s__wall, defBody s__wall, defScope s__wall, [], []⟩
def d_NoName_init : He.DefD := ⟨("NoName", some "__init__"), "__init__", "NoName.__init__", defArgs s_NoName_init, defBody s_NoName_init, defScope s_NoName_init, [], []⟩
def d_NoNumber_init : He.DefD := ⟨("NoNumber", some "__init__"), "__init__", "NoNumber.__init__", defArgs s_NoNumber_init, defBody s_NoNumber_init, defScope s_NoNumber_init, [], []⟩
def d_NoList_init : He.DefD := ⟨("NoList", some "__init__"), "__init__", "NoList.__init__", defArgs s_NoList_init, defBody s_NoList_init, defScope s_NoList_init, [], []⟩
def d_Doubled_init : He.DefD := ⟨("Doubled", some "__init__"), "__init__", "Doubled.__init__", defArgs s_Doubled_init, defBody s_Doubled_init, defScope s_Doubled_init, [], []⟩
def d_NotThere_init : He.DefD := ⟨("NotThere", some "__init__"), "__init__", "NotThere.__init__", defArgs s_NotThere_init, defBody s_NotThere_init, defScope s_NotThere_init, [], []⟩
def d_is_whole : He.DefD := ⟨("is_whole", none), "is_whole", "is_whole", defArgs s_is_whole, defBody s_is_whole, defScope s_is_whole, [], []⟩
def d_is_name : He.DefD := ⟨("is_name", none), "is_name", "is_name", defArgs s_is_name, defBody s_is_name, defScope s_is_name, [], []⟩
def d_need_name : He.DefD := ⟨("need_name", none), "need_name", "need_name", defArgs s_need_name, defBody s_need_name, defScope s_need_name, [], []⟩
def d_need_number : He.DefD := ⟨("need_number", none), "need_number", "need_number", defArgs s_need_number, defBody s_need_number, defScope s_need_number, [], []⟩
def d_Sort_init : He.DefD := ⟨("Sort", some "__init__"), "__init__", "Sort.__init__", defArgs s_Sort_init, defBody s_Sort_init, defScope s_Sort_init, [.int (2), .int (0)], []⟩
def d_Sort_eq : He.DefD := ⟨("Sort", some "__eq__"), "__eq__", "Sort.__eq__", defArgs s_Sort_eq, defBody s_Sort_eq, defScope s_Sort_eq, [], []⟩
def d_Sort_str : He.DefD := ⟨("Sort", some "__str__"), "__str__", "Sort.__str__", defArgs s_Sort_str, defBody s_Sort_str, defScope s_Sort_str, [], []⟩
def d_Sort_repr : He.DefD := ⟨("Sort", some "__repr__"), "__repr__", "Sort.__repr__", defArgs s_Sort_repr, defBody s_Sort_repr, defScope s_Sort_repr, [], []⟩
def d_Sort_name : He.DefD := ⟨("Sort", some "name"), "name", "Sort.name", defArgs s_Sort_name, defBody s_Sort_name, defScope s_Sort_name, [], []⟩
def d_Sort_kin : He.DefD := ⟨("Sort", some "kin"), "kin", "Sort.kin", defArgs s_Sort_kin, defBody s_Sort_kin, defScope s_Sort_kin, [], []⟩
def d_Sort_needs : He.DefD := ⟨("Sort", some "needs"), "needs", "Sort.needs", defArgs s_Sort_needs, defBody s_Sort_needs, defScope s_Sort_needs, [], []⟩
def d_Sort_keeps : He.DefD := ⟨("Sort", some "keeps"), "keeps", "Sort.keeps", defArgs s_Sort_keeps, defBody s_Sort_keeps, defScope s_Sort_keeps, [], []⟩
def d_Sort_bears : He.DefD := ⟨("Sort", some "bears"), "bears", "Sort.bears", defArgs s_Sort_bears, defBody s_Sort_bears, defScope s_Sort_bears, [], []⟩
def d_Sort_told : He.DefD := ⟨("Sort", some "told"), "told", "Sort.told", defArgs s_Sort_told, defBody s_Sort_told, defScope s_Sort_told, [], []⟩
def d_Sort_changed : He.DefD := ⟨("Sort", some "changed"), "changed", "Sort.changed", defArgs s_Sort_changed, defBody s_Sort_changed, defScope s_Sort_changed, [.non, .non, .non], []⟩
def d_are_sorts : He.DefD := ⟨("are_sorts", none), "are_sorts", "are_sorts", defArgs s_are_sorts, defBody s_are_sorts, defScope s_are_sorts, [], []⟩
def d_Sorts_init : He.DefD := ⟨("Sorts", some "__init__"), "__init__", "Sorts.__init__", defArgs s_Sorts_init, defBody s_Sorts_init, defScope s_Sorts_init, [], []⟩
def d_Sorts_eq : He.DefD := ⟨("Sorts", some "__eq__"), "__eq__", "Sorts.__eq__", defArgs s_Sorts_eq, defBody s_Sorts_eq, defScope s_Sorts_eq, [], []⟩
def d_Sorts_len : He.DefD := ⟨("Sorts", some "__len__"), "__len__", "Sorts.__len__", defArgs s_Sorts_len, defBody s_Sorts_len, defScope s_Sorts_len, [], []⟩
def d_Sorts_names : He.DefD := ⟨("Sorts", some "names"), "names", "Sorts.names", defArgs s_Sorts_names, defBody s_Sorts_names, defScope s_Sorts_names, [], []⟩
def d_Sorts_all_sorts : He.DefD := ⟨("Sorts", some "all_sorts"), "all_sorts", "Sorts.all_sorts", defArgs s_Sorts_all_sorts, defBody s_Sorts_all_sorts, defScope s_Sorts_all_sorts, [], []⟩
def d_Sorts_kins : He.DefD := ⟨("Sorts", some "kins"), "kins", "Sorts.kins", defArgs s_Sorts_kins, defBody s_Sorts_kins, defScope s_Sorts_kins, [], []⟩
def d_Sorts_of_kin : He.DefD := ⟨("Sorts", some "of_kin"), "of_kin", "Sorts.of_kin", defArgs s_Sorts_of_kin, defBody s_Sorts_of_kin, defScope s_Sorts_of_kin, [], []⟩
def d_Sorts_told : He.DefD := ⟨("Sorts", some "told"), "told", "Sorts.told", defArgs s_Sorts_told, defBody s_Sorts_told, defScope s_Sorts_told, [], []⟩
def d_Sorts_place_of : He.DefD := ⟨("Sorts", some "place_of"), "place_of", "Sorts.place_of", defArgs s_Sorts_place_of, defBody s_Sorts_place_of, defScope s_Sorts_place_of, [], []⟩
def d_Sorts_by_name : He.DefD := ⟨("Sorts", some "by_name"), "by_name", "Sorts.by_name", defArgs s_Sorts_by_name, defBody s_Sorts_by_name, defScope s_Sorts_by_name, [], []⟩
def d_Sorts_with_sort : He.DefD := ⟨("Sorts", some "with_sort"), "with_sort", "Sorts.with_sort", defArgs s_Sorts_with_sort, defBody s_Sorts_with_sort, defScope s_Sorts_with_sort, [], []⟩
def d_l_cell : He.DefD := ⟨("_law_cell", none), "_law_cell", "_law_cell", defArgs s_l_cell, defBody s_l_cell, defScope s_l_cell, [], []⟩
def d_l_box : He.DefD := ⟨("_law_box", none), "_law_box", "_law_box", defArgs s_l_box, defBody s_l_box, defScope s_l_box, [], []⟩
def d_l_take : He.DefD := ⟨("_law_take", none), "_law_take", "_law_take", defArgs s_l_take, defBody s_l_take, defScope s_l_take, [], []⟩
def d_l_names : He.DefD := ⟨("_law_names", none), "_law_names", "_law_names", defArgs s_l_names, defBody s_l_names, defScope s_l_names, [], []⟩
def d_l_bound : He.DefD := ⟨("_law_bound", none), "_law_bound", "_law_bound", defArgs s_l_bound, defBody s_l_bound, defScope s_l_bound, [], []⟩
def d_l_parts : He.DefD := ⟨("_law_parts", none), "_law_parts", "_law_parts", defArgs s_l_parts, defBody s_l_parts, defScope s_l_parts, [], []⟩
def d_l_rows : He.DefD := ⟨("_law_rows", none), "_law_rows", "_law_rows", defArgs s_l_rows, defBody s_l_rows, defScope s_l_rows, [], []⟩
def d_l_other : He.DefD := ⟨("_law_other", none), "_law_other", "_law_other", defArgs s_l_other, defBody s_l_other, defScope s_l_other, [], []⟩
def d_l_made : He.DefD := ⟨("_law_made", none), "_law_made", "_law_made", defArgs s_l_made, defBody s_l_made, defScope s_l_made, [], []⟩
def d_l_kins : He.DefD := ⟨("_law_kins", none), "_law_kins", "_law_kins", defArgs s_l_kins, defBody s_l_kins, defScope s_l_kins, [], []⟩
def d_l_asked : He.DefD := ⟨("_law_asked", none), "_law_asked", "_law_asked", defArgs s_l_asked, defBody s_l_asked, defScope s_l_asked, [], []⟩
def d_l_right : He.DefD := ⟨("_law_right", none), "_law_right", "_law_right", defArgs s_l_right, defBody s_l_right, defScope s_l_right, [], []⟩
def d_law : He.DefD := ⟨("law", none), "law", "law", defArgs s_law, defBody s_law, defScope s_law, [], []⟩
def fn : List He.DefD := [d__wall, d_NoName_init, d_NoNumber_init, d_NoList_init, d_Doubled_init, d_NotThere_init, d_is_whole, d_is_name, d_need_name, d_need_number, d_Sort_init, d_Sort_eq, d_Sort_str, d_Sort_repr, d_Sort_name, d_Sort_kin, d_Sort_needs, d_Sort_keeps, d_Sort_bears, d_Sort_told, d_Sort_changed, d_are_sorts, d_Sorts_init, d_Sorts_eq, d_Sorts_len, d_Sorts_names, d_Sorts_all_sorts, d_Sorts_kins, d_Sorts_of_kin, d_Sorts_told, d_Sorts_place_of, d_Sorts_by_name, d_Sorts_with_sort, d_l_cell, d_l_box, d_l_take, d_l_names, d_l_bound, d_l_parts, d_l_rows, d_l_other, d_l_made, d_l_kins, d_l_asked, d_l_right, d_law]
def cs : List Str := ["WeekError", "MissError", "NoName", "NoNumber", "NoList", "Doubled", "NotThere", "Sort", "Sorts"]
def fx0 : List WA.Fx := [fun K => (He.Fa.glo "_wall").ok K, fun K => (He.Fa.glo "is_whole").ok K, fun K => (He.Fa.glo "is_name").ok K, fun K => (He.Fa.glo "need_name").ok K, fun K => (He.Fa.glo "need_number").ok K, fun K => (He.Fa.glo "are_sorts").ok K, fun K => (He.Fa.glo "_law_cell").ok K, fun K => (He.Fa.glo "_law_box").ok K, fun K => (He.Fa.glo "_law_take").ok K, fun K => (He.Fa.glo "_law_names").ok K, fun K => (He.Fa.glo "_law_bound").ok K, fun K => (He.Fa.glo "_law_parts").ok K, fun K => (He.Fa.glo "_law_rows").ok K, fun K => (He.Fa.glo "_law_other").ok K, fun K => (He.Fa.glo "_law_made").ok K, fun K => (He.Fa.glo "_law_kins").ok K, fun K => (He.Fa.glo "_law_asked").ok K, fun K => (He.Fa.glo "_law_right").ok K, fun K => (He.Fa.glo "law").ok K, fun K => (He.Fa.free "len").ok K, fun K => (He.Fa.free "isinstance").ok K, fun K => (He.Fa.free "repr").ok K, fun K => (He.Fa.free "range").ok K, fun K => (He.Fa.free "max").ok K, fun K => (He.Fa.free "min").ok K, fun K => (He.Fa.free "all").ok K, fun K => (He.Fa.free "enumerate").ok K, fun K => (He.Fa.free "int").ok K, fun K => (He.Fa.free "str").ok K, fun K => (He.Fa.free "list").ok K, fun K => (He.Fa.free "tuple").ok K, fun K => (He.Fa.free "bool").ok K, fun K => (He.Fa.free "ValueError").ok K, fun K => (He.Fa.free "LookupError").ok K, fun K => (He.Fa.str "LETTERS" "abcdefghijklmnopqrstuvwxyz").ok K, fun K => (He.Fa.int "LONGEST" 8).ok K, fun K => (He.Fa.int "MOST_NEEDS" 10000).ok K, fun K => (He.Fa.int "MOST_KEEPS" 12).ok K, fun K => (He.Fa.int "COLD" 60).ok K, fun K => (He.Fa.int "MOST_SORTS" 12).ok K]
def fx1 : List WA.Fx := [fun K => (He.Fa.glo "WeekError").ok K, Wk.sixB "WeekError", Wk.exbB "WeekError", fun K => (He.Fa.glo "MissError").ok K, Wk.sixB "MissError", fun K => (He.Fa.glo "NoName").ok K, Wk.sixB "NoName", Wk.exkB "NoName", fun K => (He.Fa.glo "NoNumber").ok K, Wk.sixB "NoNumber", Wk.exkB "NoNumber", fun K => (He.Fa.glo "NoList").ok K, Wk.sixB "NoList", Wk.exkB "NoList", fun K => (He.Fa.glo "Doubled").ok K, Wk.sixB "Doubled", Wk.exkB "Doubled", fun K => (He.Fa.glo "NotThere").ok K, Wk.sixB "NotThere", fun K => (He.Fa.glo "Sort").ok K, Wk.sixB "Sort", fun K => (He.Fa.glo "Sorts").ok K, Wk.sixB "Sorts", fun K => (He.Fa.cls "Sort").ok K, fun K => (He.Fa.mkr "Sort").ok K, Wk.insB "Sort", Wk.pcB "Sort" ["called", "belongs", "warmth_needed", "weeks_kept", "cold_borne"], fun K => (He.Fa.meth "Sort" "__eq__").ok K, fun K => (He.Fa.meth "Sort" "__str__").ok K, fun K => (He.Fa.meth "Sort" "__repr__").ok K, fun K => (He.Fa.meth "Sort" "name").ok K, fun K => (He.Fa.meth "Sort" "kin").ok K, fun K => (He.Fa.meth "Sort" "needs").ok K, fun K => (He.Fa.meth "Sort" "keeps").ok K, fun K => (He.Fa.meth "Sort" "bears").ok K, fun K => (He.Fa.meth "Sort" "told").ok K, fun K => (He.Fa.meth "Sort" "changed").ok K, Wk.neB "Sort", Wk.nfB "Sort", Wk.sbB "Sort"]
def fx2 : List WA.Fx := [Wk.nfC "Sort" "Sort", Wk.nfC "Sort" "Sorts", fun K => (He.Fa.cls "Sorts").ok K, fun K => (He.Fa.mkr "Sorts").ok K, Wk.insB "Sorts", Wk.pcB "Sorts" ["kept_sorts"], fun K => (He.Fa.meth "Sorts" "__eq__").ok K, fun K => (He.Fa.meth "Sorts" "__len__").ok K, fun K => (He.Fa.meth "Sorts" "names").ok K, fun K => (He.Fa.meth "Sorts" "all_sorts").ok K, fun K => (He.Fa.meth "Sorts" "kins").ok K, fun K => (He.Fa.meth "Sorts" "of_kin").ok K, fun K => (He.Fa.meth "Sorts" "told").ok K, fun K => (He.Fa.meth "Sorts" "place_of").ok K, fun K => (He.Fa.meth "Sorts" "by_name").ok K, fun K => (He.Fa.meth "Sorts" "with_sort").ok K, Wk.neB "Sorts", Wk.nfB "Sorts", Wk.sbB "Sorts", Wk.nfC "Sorts" "Sort", Wk.nfC "Sorts" "Sorts", Wk.kbB "Sort", Wk.kiB "WeekError" "Sort" false, Wk.kiB "MissError" "Sort" false, Wk.kiB "NoName" "Sort" false, Wk.kiB "NoNumber" "Sort" false, Wk.kiB "NoList" "Sort" false, Wk.kiB "Doubled" "Sort" false, Wk.kiB "NotThere" "Sort" false, Wk.kiB "Sort" "Sort" true, Wk.kiB "Sorts" "Sort" false, Wk.kbB "Sorts", Wk.kiB "WeekError" "Sorts" false, Wk.kiB "MissError" "Sorts" false, Wk.kiB "NoName" "Sorts" false, Wk.kiB "NoNumber" "Sorts" false, Wk.kiB "NoList" "Sorts" false, Wk.kiB "Doubled" "Sorts" false, Wk.kiB "NotThere" "Sorts" false, Wk.kiB "Sort" "Sorts" false]
def fx3 : List WA.Fx := [Wk.kiB "Sorts" "Sorts" true, Wk.noList, fun K => (K.lookup sysModules).isSome]
def fx : List WA.Fx := fx0 ++ fx1 ++ fx2 ++ fx3
abbrev a_NoName_init (K : PySem.W.Frag) : Addr := He.fAd K ("NoName", some "__init__")
abbrev a_NoNumber_init (K : PySem.W.Frag) : Addr := He.fAd K ("NoNumber", some "__init__")
abbrev a_NoList_init (K : PySem.W.Frag) : Addr := He.fAd K ("NoList", some "__init__")
abbrev a_Doubled_init (K : PySem.W.Frag) : Addr := He.fAd K ("Doubled", some "__init__")
abbrev a_is_whole (K : PySem.W.Frag) : Addr := He.fAd K ("is_whole", none)
abbrev a_is_name (K : PySem.W.Frag) : Addr := He.fAd K ("is_name", none)
abbrev a_need_name (K : PySem.W.Frag) : Addr := He.fAd K ("need_name", none)
abbrev a_need_number (K : PySem.W.Frag) : Addr := He.fAd K ("need_number", none)
abbrev a_Sort_init (K : PySem.W.Frag) : Addr := He.fAd K ("Sort", some "__init__")
abbrev a_Sort_name (K : PySem.W.Frag) : Addr := He.fAd K ("Sort", some "name")
abbrev a_Sort_kin (K : PySem.W.Frag) : Addr := He.fAd K ("Sort", some "kin")
abbrev a_Sort_told (K : PySem.W.Frag) : Addr := He.fAd K ("Sort", some "told")
abbrev a_are_sorts (K : PySem.W.Frag) : Addr := He.fAd K ("are_sorts", none)
abbrev a_Sorts_init (K : PySem.W.Frag) : Addr := He.fAd K ("Sorts", some "__init__")
abbrev a_Sorts_eq (K : PySem.W.Frag) : Addr := He.fAd K ("Sorts", some "__eq__")
abbrev a_Sorts_len (K : PySem.W.Frag) : Addr := He.fAd K ("Sorts", some "__len__")
abbrev a_Sorts_names (K : PySem.W.Frag) : Addr := He.fAd K ("Sorts", some "names")
abbrev a_Sorts_all_sorts (K : PySem.W.Frag) : Addr := He.fAd K ("Sorts", some "all_sorts")
abbrev a_Sorts_kins (K : PySem.W.Frag) : Addr := He.fAd K ("Sorts", some "kins")
abbrev a_Sorts_of_kin (K : PySem.W.Frag) : Addr := He.fAd K ("Sorts", some "of_kin")
abbrev a_Sorts_told (K : PySem.W.Frag) : Addr := He.fAd K ("Sorts", some "told")
abbrev a_Sorts_place_of (K : PySem.W.Frag) : Addr := He.fAd K ("Sorts", some "place_of")
abbrev a_Sorts_by_name (K : PySem.W.Frag) : Addr := He.fAd K ("Sorts", some "by_name")
abbrev a_l_cell (K : PySem.W.Frag) : Addr := He.fAd K ("_law_cell", none)
abbrev a_l_box (K : PySem.W.Frag) : Addr := He.fAd K ("_law_box", none)
abbrev a_l_take (K : PySem.W.Frag) : Addr := He.fAd K ("_law_take", none)
abbrev a_l_names (K : PySem.W.Frag) : Addr := He.fAd K ("_law_names", none)
abbrev a_l_bound (K : PySem.W.Frag) : Addr := He.fAd K ("_law_bound", none)
abbrev a_l_parts (K : PySem.W.Frag) : Addr := He.fAd K ("_law_parts", none)
abbrev a_l_rows (K : PySem.W.Frag) : Addr := He.fAd K ("_law_rows", none)
abbrev a_l_other (K : PySem.W.Frag) : Addr := He.fAd K ("_law_other", none)
abbrev a_l_made (K : PySem.W.Frag) : Addr := He.fAd K ("_law_made", none)
abbrev a_l_kins (K : PySem.W.Frag) : Addr := He.fAd K ("_law_kins", none)
abbrev a_l_asked (K : PySem.W.Frag) : Addr := He.fAd K ("_law_asked", none)
abbrev a_l_right (K : PySem.W.Frag) : Addr := He.fAd K ("_law_right", none)
abbrev a_law (K : PySem.W.Frag) : Addr := He.fAd K ("law", none)
structure Tx (K : PySem.W.Frag) (mg : Str → Option Value) : Prop where
  c : WA.SaysX fx fn K
  h : ∃ h : Heap, K.In h ∧ h.Ns mainGlobals mg
section
variable {K : PySem.W.Frag} {mg : Str → Option Value}
theorem Tx.glo (T : Tx K mg) {x : Str} (i : Nat) (h : fx[i]? = some (fun K => (He.Fa.glo x).ok K) := by rfl) : mg x = some (.ref (He.ga K x)) := let ⟨_, X, G⟩ := T.h; He.glo_ok X G (T.c.fact i h)
theorem Tx.free (T : Tx K mg) {x : Str} (i : Nat) (h : fx[i]? = some (fun K => (He.Fa.free x).ok K) := by rfl) : mg x = none := let ⟨_, X, G⟩ := T.h; He.free_ok X G (T.c.fact i h)
theorem Tx.int (T : Tx K mg) {x : Str} {z : Int} (i : Nat) (h : fx[i]? = some (fun K => (He.Fa.int x z).ok K) := by rfl) : ∃ t, mg x = some (.int z t) := let ⟨_, X, G⟩ := T.h; He.int_ok X G (T.c.fact i h)
theorem Tx.str (T : Tx K mg) {x z : Str} (i : Nat) (h : fx[i]? = some (fun K => (He.Fa.str x z).ok K) := by rfl) : ∃ t, mg x = some (.str z t) := let ⟨_, X, G⟩ := T.h; He.str_ok X G (T.c.fact i h)
theorem Tx.g_is_whole (T : Tx K mg) : mg "is_whole" = some (.ref (a_is_whole K)) := T.glo (x := "is_whole") 1
theorem Tx.g_is_name (T : Tx K mg) : mg "is_name" = some (.ref (a_is_name K)) := T.glo (x := "is_name") 2
theorem Tx.g_need_name (T : Tx K mg) : mg "need_name" = some (.ref (a_need_name K)) := T.glo (x := "need_name") 3
theorem Tx.g_need_number (T : Tx K mg) : mg "need_number" = some (.ref (a_need_number K)) := T.glo (x := "need_number") 4
theorem Tx.g_are_sorts (T : Tx K mg) : mg "are_sorts" = some (.ref (a_are_sorts K)) := T.glo (x := "are_sorts") 5
theorem Tx.g_l_cell (T : Tx K mg) : mg "_law_cell" = some (.ref (a_l_cell K)) := T.glo (x := "_law_cell") 6
theorem Tx.g_l_box (T : Tx K mg) : mg "_law_box" = some (.ref (a_l_box K)) := T.glo (x := "_law_box") 7
theorem Tx.g_l_take (T : Tx K mg) : mg "_law_take" = some (.ref (a_l_take K)) := T.glo (x := "_law_take") 8
theorem Tx.g_l_names (T : Tx K mg) : mg "_law_names" = some (.ref (a_l_names K)) := T.glo (x := "_law_names") 9
theorem Tx.g_l_bound (T : Tx K mg) : mg "_law_bound" = some (.ref (a_l_bound K)) := T.glo (x := "_law_bound") 10
theorem Tx.g_l_parts (T : Tx K mg) : mg "_law_parts" = some (.ref (a_l_parts K)) := T.glo (x := "_law_parts") 11
theorem Tx.g_l_rows (T : Tx K mg) : mg "_law_rows" = some (.ref (a_l_rows K)) := T.glo (x := "_law_rows") 12
theorem Tx.g_l_other (T : Tx K mg) : mg "_law_other" = some (.ref (a_l_other K)) := T.glo (x := "_law_other") 13
theorem Tx.g_l_made (T : Tx K mg) : mg "_law_made" = some (.ref (a_l_made K)) := T.glo (x := "_law_made") 14
theorem Tx.g_l_kins (T : Tx K mg) : mg "_law_kins" = some (.ref (a_l_kins K)) := T.glo (x := "_law_kins") 15
theorem Tx.g_l_asked (T : Tx K mg) : mg "_law_asked" = some (.ref (a_l_asked K)) := T.glo (x := "_law_asked") 16
theorem Tx.g_l_right (T : Tx K mg) : mg "_law_right" = some (.ref (a_l_right K)) := T.glo (x := "_law_right") 17
theorem Tx.g_law (T : Tx K mg) : mg "law" = some (.ref (a_law K)) := T.glo (x := "law") 18
theorem Tx.n_len (T : Tx K mg) : mg "len" = none := T.free (x := "len") 19
theorem Tx.n_isinstance (T : Tx K mg) : mg "isinstance" = none := T.free (x := "isinstance") 20
theorem Tx.n_repr (T : Tx K mg) : mg "repr" = none := T.free (x := "repr") 21
theorem Tx.n_range (T : Tx K mg) : mg "range" = none := T.free (x := "range") 22
theorem Tx.n_max (T : Tx K mg) : mg "max" = none := T.free (x := "max") 23
theorem Tx.n_min (T : Tx K mg) : mg "min" = none := T.free (x := "min") 24
theorem Tx.n_all (T : Tx K mg) : mg "all" = none := T.free (x := "all") 25
theorem Tx.n_enumerate (T : Tx K mg) : mg "enumerate" = none := T.free (x := "enumerate") 26
theorem Tx.n_int (T : Tx K mg) : mg "int" = none := T.free (x := "int") 27
theorem Tx.n_str (T : Tx K mg) : mg "str" = none := T.free (x := "str") 28
theorem Tx.n_list (T : Tx K mg) : mg "list" = none := T.free (x := "list") 29
theorem Tx.n_tuple (T : Tx K mg) : mg "tuple" = none := T.free (x := "tuple") 30
theorem Tx.n_bool (T : Tx K mg) : mg "bool" = none := T.free (x := "bool") 31
theorem Tx.c_LETTERS (T : Tx K mg) : ∃ t, mg "LETTERS" = some (.str "abcdefghijklmnopqrstuvwxyz" t) := T.str (x := "LETTERS") (z := "abcdefghijklmnopqrstuvwxyz") 34
theorem Tx.c_LONGEST (T : Tx K mg) : ∃ t, mg "LONGEST" = some (.int 8 t) := T.int (x := "LONGEST") (z := 8) 35
theorem Tx.c_MOST_NEEDS (T : Tx K mg) : ∃ t, mg "MOST_NEEDS" = some (.int 10000 t) := T.int (x := "MOST_NEEDS") (z := 10000) 36
theorem Tx.c_MOST_KEEPS (T : Tx K mg) : ∃ t, mg "MOST_KEEPS" = some (.int 12 t) := T.int (x := "MOST_KEEPS") (z := 12) 37
theorem Tx.c_COLD (T : Tx K mg) : ∃ t, mg "COLD" = some (.int 60 t) := T.int (x := "COLD") (z := 60) 38
theorem Tx.c_MOST_SORTS (T : Tx K mg) : ∃ t, mg "MOST_SORTS" = some (.int 12 t) := T.int (x := "MOST_SORTS") (z := 12) 39
theorem Tx.y_WeekError (T : Tx K mg) : ExB K mg "WeekError" (He.ga K "WeekError") := let ⟨_, X, G⟩ := T.h; exb_ok X G (T.c.fact 40 (f := fun K => (He.Fa.glo "WeekError").ok K)) (T.c.fact 42)
theorem Tx.x_NoName (T : Tx K mg) : ExK K mg "NoName" (He.ga K "NoName") (a_NoName_init K) := let ⟨_, X, G⟩ := T.h; exk_ok X G (T.c.fact 45 (f := fun K => (He.Fa.glo "NoName").ok K)) (T.c.fact 47)
theorem Tx.x_NoNumber (T : Tx K mg) : ExK K mg "NoNumber" (He.ga K "NoNumber") (a_NoNumber_init K) := let ⟨_, X, G⟩ := T.h; exk_ok X G (T.c.fact 48 (f := fun K => (He.Fa.glo "NoNumber").ok K)) (T.c.fact 50)
theorem Tx.x_NoList (T : Tx K mg) : ExK K mg "NoList" (He.ga K "NoList") (a_NoList_init K) := let ⟨_, X, G⟩ := T.h; exk_ok X G (T.c.fact 51 (f := fun K => (He.Fa.glo "NoList").ok K)) (T.c.fact 53)
theorem Tx.x_Doubled (T : Tx K mg) : ExK K mg "Doubled" (He.ga K "Doubled") (a_Doubled_init K) := let ⟨_, X, G⟩ := T.h; exk_ok X G (T.c.fact 54 (f := fun K => (He.Fa.glo "Doubled").ok K)) (T.c.fact 56)
theorem Tx.g_Sort (T : Tx K mg) : mg "Sort" = some (.ref (He.ga K "Sort")) := T.glo (x := "Sort") 59
theorem Tx.g_Sorts (T : Tx K mg) : mg "Sorts" = some (.ref (He.ga K "Sorts")) := T.glo (x := "Sorts") 61
theorem Tx.cl_Sort (T : Tx K mg) : Cls K (He.ga K "Sort") := He.cls_ok (T.c.fact 63 (f := fun K => (He.Fa.cls "Sort").ok K))
theorem Tx.mk_Sort (T : Tx K mg) : Mk K (He.ga K "Sort") (a_Sort_init K) := He.mkr_ok (T.c.fact 64 (f := fun K => (He.Fa.mkr "Sort").ok K))
theorem Tx.in_Sort (T : Tx K mg) : InsC K (He.ga K "Sort") := ins_ok T.cl_Sort (T.c.fact 65)
theorem Tx.pc_Sort (T : Tx K mg) : PC K (He.ga K "Sort") ["called", "belongs", "warmth_needed", "weeks_kept", "cold_borne"] := pc_ok T.cl_Sort (T.c.fact 66)
theorem Tx.m_Sort_name (T : Tx K mg) : Meth K (He.ga K "Sort") "name" (a_Sort_name K) := He.meth_ok (T.c.fact 70 (f := fun K => (He.Fa.meth "Sort" "name").ok K))
theorem Tx.m_Sort_kin (T : Tx K mg) : Meth K (He.ga K "Sort") "kin" (a_Sort_kin K) := He.meth_ok (T.c.fact 71 (f := fun K => (He.Fa.meth "Sort" "kin").ok K))
theorem Tx.m_Sort_told (T : Tx K mg) : Meth K (He.ga K "Sort") "told" (a_Sort_told K) := He.meth_ok (T.c.fact 75 (f := fun K => (He.Fa.meth "Sort" "told").ok K))
theorem Tx.cl_Sorts (T : Tx K mg) : Cls K (He.ga K "Sorts") := He.cls_ok (T.c.fact 82 (f := fun K => (He.Fa.cls "Sorts").ok K))
theorem Tx.mk_Sorts (T : Tx K mg) : Mk K (He.ga K "Sorts") (a_Sorts_init K) := He.mkr_ok (T.c.fact 83 (f := fun K => (He.Fa.mkr "Sorts").ok K))
theorem Tx.in_Sorts (T : Tx K mg) : InsC K (He.ga K "Sorts") := ins_ok T.cl_Sorts (T.c.fact 84)
theorem Tx.pc_Sorts (T : Tx K mg) : PC K (He.ga K "Sorts") ["kept_sorts"] := pc_ok T.cl_Sorts (T.c.fact 85)
theorem Tx.m_Sorts_eq (T : Tx K mg) : Meth K (He.ga K "Sorts") "__eq__" (a_Sorts_eq K) := He.meth_ok (T.c.fact 86 (f := fun K => (He.Fa.meth "Sorts" "__eq__").ok K))
theorem Tx.m_Sorts_len (T : Tx K mg) : Meth K (He.ga K "Sorts") "__len__" (a_Sorts_len K) := He.meth_ok (T.c.fact 87 (f := fun K => (He.Fa.meth "Sorts" "__len__").ok K))
theorem Tx.m_Sorts_names (T : Tx K mg) : Meth K (He.ga K "Sorts") "names" (a_Sorts_names K) := He.meth_ok (T.c.fact 88 (f := fun K => (He.Fa.meth "Sorts" "names").ok K))
theorem Tx.m_Sorts_all_sorts (T : Tx K mg) : Meth K (He.ga K "Sorts") "all_sorts" (a_Sorts_all_sorts K) := He.meth_ok (T.c.fact 89 (f := fun K => (He.Fa.meth "Sorts" "all_sorts").ok K))
theorem Tx.m_Sorts_kins (T : Tx K mg) : Meth K (He.ga K "Sorts") "kins" (a_Sorts_kins K) := He.meth_ok (T.c.fact 90 (f := fun K => (He.Fa.meth "Sorts" "kins").ok K))
theorem Tx.m_Sorts_of_kin (T : Tx K mg) : Meth K (He.ga K "Sorts") "of_kin" (a_Sorts_of_kin K) := He.meth_ok (T.c.fact 91 (f := fun K => (He.Fa.meth "Sorts" "of_kin").ok K))
theorem Tx.m_Sorts_told (T : Tx K mg) : Meth K (He.ga K "Sorts") "told" (a_Sorts_told K) := He.meth_ok (T.c.fact 92 (f := fun K => (He.Fa.meth "Sorts" "told").ok K))
theorem Tx.m_Sorts_place_of (T : Tx K mg) : Meth K (He.ga K "Sorts") "place_of" (a_Sorts_place_of K) := He.meth_ok (T.c.fact 93 (f := fun K => (He.Fa.meth "Sorts" "place_of").ok K))
theorem Tx.m_Sorts_by_name (T : Tx K mg) : Meth K (He.ga K "Sorts") "by_name" (a_Sorts_by_name K) := He.meth_ok (T.c.fact 94 (f := fun K => (He.Fa.meth "Sorts" "by_name").ok K))
theorem Tx.eq_Sorts (T : Tx K mg) : EqC K (He.ga K "Sorts") (a_Sorts_eq K) := eqc_ok T.in_Sorts T.m_Sorts_eq (T.c.fact 96)
theorem Tx.nf_Sorts (T : Tx K mg) {n : String} (h : n ∈ seven) : PySem.W.notFirst K (He.ga K "Sorts") (.type n) = true := List.all_eq_true.mp (T.c.fact 97 (f := Wk.nfB "Sorts")) n h
theorem Tx.sb_Sorts (T : Tx K mg) : ∀ n ∈ seven, PySem.W.subIn K (.ref (He.ga K "Sorts")) (.type n) = some false := fun n h => of_decide_eq_true (List.all_eq_true.mp (T.c.fact 98 (f := Wk.sbB "Sorts")) n h)
theorem Tx.nf_Sorts_Sorts (T : Tx K mg) : PySem.W.notFirst K (He.ga K "Sorts") (.ref (He.ga K "Sorts")) = true := T.c.fact 100 (f := Wk.nfC "Sorts" "Sorts")
theorem Tx.ki_Sort_Sort (T : Tx K mg) : PySem.W.kitOne K (.ref (He.ga K "Sort")) (.ref (He.ga K "Sort")) = some true := of_decide_eq_true (T.c.fact 109 (f := Wk.kiB "Sort" "Sort" true))
theorem Tx.kb_Sorts (T : Tx K mg) {n : String} (h : n ∈ seven) : PySem.W.kitOne K (.type n) (.ref (He.ga K "Sorts")) = some false := of_decide_eq_true (List.all_eq_true.mp (T.c.fact 111 (f := Wk.kbB "Sorts")) n h)
theorem Tx.ki_Sorts_Sorts (T : Tx K mg) : PySem.W.kitOne K (.ref (He.ga K "Sorts")) (.ref (He.ga K "Sorts")) = some true := of_decide_eq_true (T.c.fact 120 (f := Wk.kiB "Sorts" "Sorts" true))
theorem Tx.nol (T : Tx K mg) : noList K = true := T.c.fact 121
theorem Tx.sys (T : Tx K mg) : HasSys K := Option.isSome_iff_exists.mp (T.c.fact 122)
theorem Tx.f_NoName_init (T : Tx K mg) : FD K "__init__" "NoName.__init__" s_NoName_init [] (a_NoName_init K) := let ⟨_, F⟩ := T.c.def_ 1 (d := d_NoName_init); fd_of F
theorem Tx.b_NoName_init (T : Tx K mg) : Binds K (fdOf K (a_NoName_init K)) ["self", "found"] [] := FunD.bindsN T.f_NoName_init fun _ _ _ _ _ _ us hl => match us, hl with | [_, _], _ => rfl
theorem Tx.f_NoNumber_init (T : Tx K mg) : FD K "__init__" "NoNumber.__init__" s_NoNumber_init [] (a_NoNumber_init K) := let ⟨_, F⟩ := T.c.def_ 2 (d := d_NoNumber_init); fd_of F
theorem Tx.b_NoNumber_init (T : Tx K mg) : Binds K (fdOf K (a_NoNumber_init K)) ["self", "found"] [] := FunD.bindsN T.f_NoNumber_init fun _ _ _ _ _ _ us hl => match us, hl with | [_, _], _ => rfl
theorem Tx.f_NoList_init (T : Tx K mg) : FD K "__init__" "NoList.__init__" s_NoList_init [] (a_NoList_init K) := let ⟨_, F⟩ := T.c.def_ 3 (d := d_NoList_init); fd_of F
theorem Tx.b_NoList_init (T : Tx K mg) : Binds K (fdOf K (a_NoList_init K)) ["self", "found"] [] := FunD.bindsN T.f_NoList_init fun _ _ _ _ _ _ us hl => match us, hl with | [_, _], _ => rfl
theorem Tx.f_Doubled_init (T : Tx K mg) : FD K "__init__" "Doubled.__init__" s_Doubled_init [] (a_Doubled_init K) := let ⟨_, F⟩ := T.c.def_ 4 (d := d_Doubled_init); fd_of F
theorem Tx.b_Doubled_init (T : Tx K mg) : Binds K (fdOf K (a_Doubled_init K)) ["self", "found"] [] := FunD.bindsN T.f_Doubled_init fun _ _ _ _ _ _ us hl => match us, hl with | [_, _], _ => rfl
theorem Tx.f_is_whole (T : Tx K mg) : FD K "is_whole" "is_whole" s_is_whole [] (a_is_whole K) := let ⟨_, F⟩ := T.c.def_ 6 (d := d_is_whole); fd_of F
theorem Tx.k_is_whole (T : Tx K mg) : PySem.W.keepIn K (.ref (a_is_whole K)) = true := T.f_is_whole.kp
theorem Tx.b_is_whole (T : Tx K mg) : Binds K (fdOf K (a_is_whole K)) ["thing", "low", "high"] [] := FunD.bindsN T.f_is_whole fun _ _ _ _ _ _ us hl => match us, hl with | [_, _, _], _ => rfl
theorem Tx.f_is_name (T : Tx K mg) : FD K "is_name" "is_name" s_is_name [] (a_is_name K) := let ⟨_, F⟩ := T.c.def_ 7 (d := d_is_name); fd_of F
theorem Tx.k_is_name (T : Tx K mg) : PySem.W.keepIn K (.ref (a_is_name K)) = true := T.f_is_name.kp
theorem Tx.b_is_name (T : Tx K mg) : Binds K (fdOf K (a_is_name K)) ["thing"] [] := FunD.bindsN T.f_is_name fun _ _ _ _ _ _ us hl => match us, hl with | [_], _ => rfl
theorem Tx.f_need_name (T : Tx K mg) : FD K "need_name" "need_name" s_need_name [] (a_need_name K) := let ⟨_, F⟩ := T.c.def_ 8 (d := d_need_name); fd_of F
theorem Tx.k_need_name (T : Tx K mg) : PySem.W.keepIn K (.ref (a_need_name K)) = true := T.f_need_name.kp
theorem Tx.b_need_name (T : Tx K mg) : Binds K (fdOf K (a_need_name K)) ["thing"] [] := FunD.bindsN T.f_need_name fun _ _ _ _ _ _ us hl => match us, hl with | [_], _ => rfl
theorem Tx.f_need_number (T : Tx K mg) : FD K "need_number" "need_number" s_need_number [] (a_need_number K) := let ⟨_, F⟩ := T.c.def_ 9 (d := d_need_number); fd_of F
theorem Tx.k_need_number (T : Tx K mg) : PySem.W.keepIn K (.ref (a_need_number K)) = true := T.f_need_number.kp
theorem Tx.b_need_number (T : Tx K mg) : Binds K (fdOf K (a_need_number K)) ["thing", "low", "high"] [] := FunD.bindsN T.f_need_number fun _ _ _ _ _ _ us hl => match us, hl with | [_, _, _], _ => rfl
theorem Tx.f_Sort_init (T : Tx K mg) : FD K "__init__" "Sort.__init__" s_Sort_init [V.int (2), V.int (0)] (a_Sort_init K) := let ⟨_, F⟩ := T.c.def_ 10 (d := d_Sort_init); fd_of F
theorem Tx.f_Sort_name (T : Tx K mg) : FD K "name" "Sort.name" s_Sort_name [] (a_Sort_name K) := let ⟨_, F⟩ := T.c.def_ 14 (d := d_Sort_name); fd_of F
theorem Tx.b_Sort_name (T : Tx K mg) : Binds K (fdOf K (a_Sort_name K)) ["self"] [] := FunD.bindsN T.f_Sort_name fun _ _ _ _ _ _ us hl => match us, hl with | [_], _ => rfl
theorem Tx.f_Sort_kin (T : Tx K mg) : FD K "kin" "Sort.kin" s_Sort_kin [] (a_Sort_kin K) := let ⟨_, F⟩ := T.c.def_ 15 (d := d_Sort_kin); fd_of F
theorem Tx.b_Sort_kin (T : Tx K mg) : Binds K (fdOf K (a_Sort_kin K)) ["self"] [] := FunD.bindsN T.f_Sort_kin fun _ _ _ _ _ _ us hl => match us, hl with | [_], _ => rfl
theorem Tx.f_Sort_told (T : Tx K mg) : FD K "told" "Sort.told" s_Sort_told [] (a_Sort_told K) := let ⟨_, F⟩ := T.c.def_ 19 (d := d_Sort_told); fd_of F
theorem Tx.b_Sort_told (T : Tx K mg) : Binds K (fdOf K (a_Sort_told K)) ["self"] [] := FunD.bindsN T.f_Sort_told fun _ _ _ _ _ _ us hl => match us, hl with | [_], _ => rfl
theorem Tx.f_are_sorts (T : Tx K mg) : FD K "are_sorts" "are_sorts" s_are_sorts [] (a_are_sorts K) := let ⟨_, F⟩ := T.c.def_ 21 (d := d_are_sorts); fd_of F
theorem Tx.k_are_sorts (T : Tx K mg) : PySem.W.keepIn K (.ref (a_are_sorts K)) = true := T.f_are_sorts.kp
theorem Tx.b_are_sorts (T : Tx K mg) : Binds K (fdOf K (a_are_sorts K)) ["thing"] [] := FunD.bindsN T.f_are_sorts fun _ _ _ _ _ _ us hl => match us, hl with | [_], _ => rfl
theorem Tx.f_Sorts_init (T : Tx K mg) : FD K "__init__" "Sorts.__init__" s_Sorts_init [] (a_Sorts_init K) := let ⟨_, F⟩ := T.c.def_ 22 (d := d_Sorts_init); fd_of F
theorem Tx.f_Sorts_eq (T : Tx K mg) : FD K "__eq__" "Sorts.__eq__" s_Sorts_eq [] (a_Sorts_eq K) := let ⟨_, F⟩ := T.c.def_ 23 (d := d_Sorts_eq); fd_of F
theorem Tx.b_Sorts_eq (T : Tx K mg) : Binds K (fdOf K (a_Sorts_eq K)) ["self", "other"] [] := FunD.bindsN T.f_Sorts_eq fun _ _ _ _ _ _ us hl => match us, hl with | [_, _], _ => rfl
theorem Tx.f_Sorts_len (T : Tx K mg) : FD K "__len__" "Sorts.__len__" s_Sorts_len [] (a_Sorts_len K) := let ⟨_, F⟩ := T.c.def_ 24 (d := d_Sorts_len); fd_of F
theorem Tx.b_Sorts_len (T : Tx K mg) : Binds K (fdOf K (a_Sorts_len K)) ["self"] [] := FunD.bindsN T.f_Sorts_len fun _ _ _ _ _ _ us hl => match us, hl with | [_], _ => rfl
theorem Tx.f_Sorts_names (T : Tx K mg) : FD K "names" "Sorts.names" s_Sorts_names [] (a_Sorts_names K) := let ⟨_, F⟩ := T.c.def_ 25 (d := d_Sorts_names); fd_of F
theorem Tx.b_Sorts_names (T : Tx K mg) : Binds K (fdOf K (a_Sorts_names K)) ["self"] [] := FunD.bindsN T.f_Sorts_names fun _ _ _ _ _ _ us hl => match us, hl with | [_], _ => rfl
theorem Tx.f_Sorts_all_sorts (T : Tx K mg) : FD K "all_sorts" "Sorts.all_sorts" s_Sorts_all_sorts [] (a_Sorts_all_sorts K) := let ⟨_, F⟩ := T.c.def_ 26 (d := d_Sorts_all_sorts); fd_of F
theorem Tx.b_Sorts_all_sorts (T : Tx K mg) : Binds K (fdOf K (a_Sorts_all_sorts K)) ["self"] [] := FunD.bindsN T.f_Sorts_all_sorts fun _ _ _ _ _ _ us hl => match us, hl with | [_], _ => rfl
theorem Tx.f_Sorts_kins (T : Tx K mg) : FD K "kins" "Sorts.kins" s_Sorts_kins [] (a_Sorts_kins K) := let ⟨_, F⟩ := T.c.def_ 27 (d := d_Sorts_kins); fd_of F
theorem Tx.b_Sorts_kins (T : Tx K mg) : Binds K (fdOf K (a_Sorts_kins K)) ["self"] [] := FunD.bindsN T.f_Sorts_kins fun _ _ _ _ _ _ us hl => match us, hl with | [_], _ => rfl
theorem Tx.f_Sorts_of_kin (T : Tx K mg) : FD K "of_kin" "Sorts.of_kin" s_Sorts_of_kin [] (a_Sorts_of_kin K) := let ⟨_, F⟩ := T.c.def_ 28 (d := d_Sorts_of_kin); fd_of F
theorem Tx.b_Sorts_of_kin (T : Tx K mg) : Binds K (fdOf K (a_Sorts_of_kin K)) ["self", "kin"] [] := FunD.bindsN T.f_Sorts_of_kin fun _ _ _ _ _ _ us hl => match us, hl with | [_, _], _ => rfl
theorem Tx.f_Sorts_told (T : Tx K mg) : FD K "told" "Sorts.told" s_Sorts_told [] (a_Sorts_told K) := let ⟨_, F⟩ := T.c.def_ 29 (d := d_Sorts_told); fd_of F
theorem Tx.b_Sorts_told (T : Tx K mg) : Binds K (fdOf K (a_Sorts_told K)) ["self"] [] := FunD.bindsN T.f_Sorts_told fun _ _ _ _ _ _ us hl => match us, hl with | [_], _ => rfl
theorem Tx.f_Sorts_place_of (T : Tx K mg) : FD K "place_of" "Sorts.place_of" s_Sorts_place_of [] (a_Sorts_place_of K) := let ⟨_, F⟩ := T.c.def_ 30 (d := d_Sorts_place_of); fd_of F
theorem Tx.b_Sorts_place_of (T : Tx K mg) : Binds K (fdOf K (a_Sorts_place_of K)) ["self", "name"] [] := FunD.bindsN T.f_Sorts_place_of fun _ _ _ _ _ _ us hl => match us, hl with | [_, _], _ => rfl
theorem Tx.f_Sorts_by_name (T : Tx K mg) : FD K "by_name" "Sorts.by_name" s_Sorts_by_name [] (a_Sorts_by_name K) := let ⟨_, F⟩ := T.c.def_ 31 (d := d_Sorts_by_name); fd_of F
theorem Tx.b_Sorts_by_name (T : Tx K mg) : Binds K (fdOf K (a_Sorts_by_name K)) ["self", "name"] [] := FunD.bindsN T.f_Sorts_by_name fun _ _ _ _ _ _ us hl => match us, hl with | [_, _], _ => rfl
theorem Tx.f_l_cell (T : Tx K mg) : FD K "_law_cell" "_law_cell" s_l_cell [] (a_l_cell K) := let ⟨_, F⟩ := T.c.def_ 33 (d := d_l_cell); fd_of F
theorem Tx.k_l_cell (T : Tx K mg) : PySem.W.keepIn K (.ref (a_l_cell K)) = true := T.f_l_cell.kp
theorem Tx.b_l_cell (T : Tx K mg) : Binds K (fdOf K (a_l_cell K)) ["script", "k"] [] := FunD.bindsN T.f_l_cell fun _ _ _ _ _ _ us hl => match us, hl with | [_, _], _ => rfl
theorem Tx.f_l_box (T : Tx K mg) : FD K "_law_box" "_law_box" s_l_box [] (a_l_box K) := let ⟨_, F⟩ := T.c.def_ 34 (d := d_l_box); fd_of F
theorem Tx.k_l_box (T : Tx K mg) : PySem.W.keepIn K (.ref (a_l_box K)) = true := T.f_l_box.kp
theorem Tx.b_l_box (T : Tx K mg) : Binds K (fdOf K (a_l_box K)) ["cell"] [] := FunD.bindsN T.f_l_box fun _ _ _ _ _ _ us hl => match us, hl with | [_], _ => rfl
theorem Tx.f_l_take (T : Tx K mg) : FD K "_law_take" "_law_take" s_l_take [] (a_l_take K) := let ⟨_, F⟩ := T.c.def_ 35 (d := d_l_take); fd_of F
theorem Tx.k_l_take (T : Tx K mg) : PySem.W.keepIn K (.ref (a_l_take K)) = true := T.f_l_take.kp
theorem Tx.b_l_take (T : Tx K mg) : Binds K (fdOf K (a_l_take K)) ["box", "many"] [] := FunD.bindsN T.f_l_take fun _ _ _ _ _ _ us hl => match us, hl with | [_, _], _ => rfl
theorem Tx.f_l_names (T : Tx K mg) : FD K "_law_names" "_law_names" s_l_names [] (a_l_names K) := let ⟨_, F⟩ := T.c.def_ 36 (d := d_l_names); fd_of F
theorem Tx.k_l_names (T : Tx K mg) : PySem.W.keepIn K (.ref (a_l_names K)) = true := T.f_l_names.kp
theorem Tx.b_l_names (T : Tx K mg) : Binds K (fdOf K (a_l_names K)) ["box", "many"] [] := FunD.bindsN T.f_l_names fun _ _ _ _ _ _ us hl => match us, hl with | [_, _], _ => rfl
theorem Tx.f_l_bound (T : Tx K mg) : FD K "_law_bound" "_law_bound" s_l_bound [] (a_l_bound K) := let ⟨_, F⟩ := T.c.def_ 37 (d := d_l_bound); fd_of F
theorem Tx.k_l_bound (T : Tx K mg) : PySem.W.keepIn K (.ref (a_l_bound K)) = true := T.f_l_bound.kp
theorem Tx.b_l_bound (T : Tx K mg) : Binds K (fdOf K (a_l_bound K)) ["box", "low", "high"] [] := FunD.bindsN T.f_l_bound fun _ _ _ _ _ _ us hl => match us, hl with | [_, _, _], _ => rfl
theorem Tx.f_l_parts (T : Tx K mg) : FD K "_law_parts" "_law_parts" s_l_parts [] (a_l_parts K) := let ⟨_, F⟩ := T.c.def_ 38 (d := d_l_parts); fd_of F
theorem Tx.k_l_parts (T : Tx K mg) : PySem.W.keepIn K (.ref (a_l_parts K)) = true := T.f_l_parts.kp
theorem Tx.b_l_parts (T : Tx K mg) : Binds K (fdOf K (a_l_parts K)) ["box", "called", "clan"] [] := FunD.bindsN T.f_l_parts fun _ _ _ _ _ _ us hl => match us, hl with | [_, _, _], _ => rfl
theorem Tx.f_l_rows (T : Tx K mg) : FD K "_law_rows" "_law_rows" s_l_rows [] (a_l_rows K) := let ⟨_, F⟩ := T.c.def_ 39 (d := d_l_rows); fd_of F
theorem Tx.k_l_rows (T : Tx K mg) : PySem.W.keepIn K (.ref (a_l_rows K)) = true := T.f_l_rows.kp
theorem Tx.b_l_rows (T : Tx K mg) : Binds K (fdOf K (a_l_rows K)) ["box"] [] := FunD.bindsN T.f_l_rows fun _ _ _ _ _ _ us hl => match us, hl with | [_], _ => rfl
theorem Tx.f_l_other (T : Tx K mg) : FD K "_law_other" "_law_other" s_l_other [] (a_l_other K) := let ⟨_, F⟩ := T.c.def_ 40 (d := d_l_other); fd_of F
theorem Tx.k_l_other (T : Tx K mg) : PySem.W.keepIn K (.ref (a_l_other K)) = true := T.f_l_other.kp
theorem Tx.b_l_other (T : Tx K mg) : Binds K (fdOf K (a_l_other K)) ["box", "rows"] [] := FunD.bindsN T.f_l_other fun _ _ _ _ _ _ us hl => match us, hl with | [_, _], _ => rfl
theorem Tx.f_l_made (T : Tx K mg) : FD K "_law_made" "_law_made" s_l_made [] (a_l_made K) := let ⟨_, F⟩ := T.c.def_ 41 (d := d_l_made); fd_of F
theorem Tx.k_l_made (T : Tx K mg) : PySem.W.keepIn K (.ref (a_l_made K)) = true := T.f_l_made.kp
theorem Tx.b_l_made (T : Tx K mg) : Binds K (fdOf K (a_l_made K)) ["box", "rows"] [] := FunD.bindsN T.f_l_made fun _ _ _ _ _ _ us hl => match us, hl with | [_, _], _ => rfl
theorem Tx.f_l_kins (T : Tx K mg) : FD K "_law_kins" "_law_kins" s_l_kins [] (a_l_kins K) := let ⟨_, F⟩ := T.c.def_ 42 (d := d_l_kins); fd_of F
theorem Tx.k_l_kins (T : Tx K mg) : PySem.W.keepIn K (.ref (a_l_kins K)) = true := T.f_l_kins.kp
theorem Tx.b_l_kins (T : Tx K mg) : Binds K (fdOf K (a_l_kins K)) ["rows"] [] := FunD.bindsN T.f_l_kins fun _ _ _ _ _ _ us hl => match us, hl with | [_], _ => rfl
theorem Tx.f_l_asked (T : Tx K mg) : FD K "_law_asked" "_law_asked" s_l_asked [] (a_l_asked K) := let ⟨_, F⟩ := T.c.def_ 43 (d := d_l_asked); fd_of F
theorem Tx.k_l_asked (T : Tx K mg) : PySem.W.keepIn K (.ref (a_l_asked K)) = true := T.f_l_asked.kp
theorem Tx.b_l_asked (T : Tx K mg) : Binds K (fdOf K (a_l_asked K)) ["made", "way", "kin"] [] := FunD.bindsN T.f_l_asked fun _ _ _ _ _ _ us hl => match us, hl with | [_, _, _], _ => rfl
theorem Tx.f_l_right (T : Tx K mg) : FD K "_law_right" "_law_right" s_l_right [] (a_l_right K) := let ⟨_, F⟩ := T.c.def_ 44 (d := d_l_right); fd_of F
theorem Tx.k_l_right (T : Tx K mg) : PySem.W.keepIn K (.ref (a_l_right K)) = true := T.f_l_right.kp
theorem Tx.b_l_right (T : Tx K mg) : Binds K (fdOf K (a_l_right K)) ["box", "made", "rows"] [] := FunD.bindsN T.f_l_right fun _ _ _ _ _ _ us hl => match us, hl with | [_, _, _], _ => rfl
theorem Tx.f_law (T : Tx K mg) : FD K "law" "law" s_law [] (a_law K) := let ⟨_, F⟩ := T.c.def_ 45 (d := d_law); fd_of F
theorem Tx.kb_Sorts_init_2 (T : Tx K mg) : KB K (fdOf K (a_Sorts_init K)) ["self", "some"] 2 [] (fun vs zs => gI [0, 1] (vs ++ zs)) := kb_n T.f_Sorts_init (fun vs zs => gI [0, 1] (vs ++ zs)) (fun r1 r2 => vals_gI (Vals.append r1 r2) _) fun _ _ _ _ _ _ us ws l1 l2 => match us, ws, l1, l2 with | [_, _], [], _, _ => rfl
theorem Tx.kb_Sort_init_6 (T : Tx K mg) : KB K (fdOf K (a_Sort_init K)) ["self", "name", "kin", "needs", "keeps", "bears"] 6 [] (fun vs zs => gI [0, 1, 2, 3, 4, 5] (vs ++ zs ++ [V.int (2), V.int (0)])) := kb_d T.f_Sort_init (by simp) (fun vs ds zs => gI [0, 1, 2, 3, 4, 5] (vs ++ zs ++ ds)) (fun r1 r2 r3 => vals_gI (Vals.append (Vals.append r1 r3) r2) _) fun _ _ _ _ _ _ _ us its ws l1 l2 l3 => match us, its, ws, l1, l2, l3 with | [_, _, _, _, _, _], [_, _], [], _, _, _ => ⟨_, rfl, rfl⟩
end
theorem sc_NoName_init : FnScope ["self", "found"] ["self", "found"] (defScope s_NoName_init) := ⟨rfl, rfl, rfl, by decide +kernel, rfl, by decide +kernel, by decide +kernel⟩
theorem sc_NoNumber_init : FnScope ["self", "found"] ["self", "found"] (defScope s_NoNumber_init) := ⟨rfl, rfl, rfl, by decide +kernel, rfl, by decide +kernel, by decide +kernel⟩
theorem sc_NoList_init : FnScope ["self", "found"] ["self", "found"] (defScope s_NoList_init) := ⟨rfl, rfl, rfl, by decide +kernel, rfl, by decide +kernel, by decide +kernel⟩
theorem sc_Doubled_init : FnScope ["self", "found"] ["self", "found"] (defScope s_Doubled_init) := ⟨rfl, rfl, rfl, by decide +kernel, rfl, by decide +kernel, by decide +kernel⟩
theorem sc_is_whole : FnScope ["thing", "low", "high"] ["thing", "low", "high"] (defScope s_is_whole) := ⟨rfl, rfl, rfl, by decide +kernel, rfl, by decide +kernel, by decide +kernel⟩
theorem sc_is_name : FnScope ["thing", "sign"] ["thing"] (defScope s_is_name) := ⟨rfl, rfl, rfl, by decide +kernel, rfl, by decide +kernel, by decide +kernel⟩
theorem sc_need_name : FnScope ["thing"] ["thing"] (defScope s_need_name) := ⟨rfl, rfl, rfl, by decide +kernel, rfl, by decide +kernel, by decide +kernel⟩
theorem sc_need_number : FnScope ["thing", "low", "high"] ["thing", "low", "high"] (defScope s_need_number) := ⟨rfl, rfl, rfl, by decide +kernel, rfl, by decide +kernel, by decide +kernel⟩
theorem sc_Sort_init : FnScope ["self", "name", "kin", "needs", "keeps", "bears"] ["self", "name", "kin", "needs", "keeps", "bears"] (defScope s_Sort_init) := ⟨rfl, rfl, rfl, by decide +kernel, rfl, by decide +kernel, by decide +kernel⟩
theorem sc_Sort_name : FnScope ["self"] ["self"] (defScope s_Sort_name) := ⟨rfl, rfl, rfl, by decide +kernel, rfl, by decide +kernel, by decide +kernel⟩
theorem sc_Sort_kin : FnScope ["self"] ["self"] (defScope s_Sort_kin) := ⟨rfl, rfl, rfl, by decide +kernel, rfl, by decide +kernel, by decide +kernel⟩
theorem sc_Sort_told : FnScope ["self"] ["self"] (defScope s_Sort_told) := ⟨rfl, rfl, rfl, by decide +kernel, rfl, by decide +kernel, by decide +kernel⟩
theorem sc_are_sorts : FnScope ["thing", "one"] ["thing"] (defScope s_are_sorts) := ⟨rfl, rfl, rfl, by decide +kernel, rfl, by decide +kernel, by decide +kernel⟩
theorem sc_Sorts_init : FnScope ["self", "some", "one"] ["self", "some"] (defScope s_Sorts_init) := ⟨rfl, rfl, rfl, by decide +kernel, rfl, by decide +kernel, by decide +kernel⟩
theorem sc_Sorts_eq : FnScope ["self", "other"] ["self", "other"] (defScope s_Sorts_eq) := ⟨rfl, rfl, rfl, by decide +kernel, rfl, by decide +kernel, by decide +kernel⟩
theorem sc_Sorts_len : FnScope ["self"] ["self"] (defScope s_Sorts_len) := ⟨rfl, rfl, rfl, by decide +kernel, rfl, by decide +kernel, by decide +kernel⟩
theorem sc_Sorts_names : FnScope ["self", "one"] ["self"] (defScope s_Sorts_names) := ⟨rfl, rfl, rfl, by decide +kernel, rfl, by decide +kernel, by decide +kernel⟩
theorem sc_Sorts_all_sorts : FnScope ["self"] ["self"] (defScope s_Sorts_all_sorts) := ⟨rfl, rfl, rfl, by decide +kernel, rfl, by decide +kernel, by decide +kernel⟩
theorem sc_Sorts_kins : FnScope ["self", "found", "one"] ["self"] (defScope s_Sorts_kins) := ⟨rfl, rfl, rfl, by decide +kernel, rfl, by decide +kernel, by decide +kernel⟩
theorem sc_Sorts_of_kin : FnScope ["self", "kin", "one"] ["self", "kin"] (defScope s_Sorts_of_kin) := ⟨rfl, rfl, rfl, by decide +kernel, rfl, by decide +kernel, by decide +kernel⟩
theorem sc_Sorts_told : FnScope ["self", "one"] ["self"] (defScope s_Sorts_told) := ⟨rfl, rfl, rfl, by decide +kernel, rfl, by decide +kernel, by decide +kernel⟩
theorem sc_Sorts_place_of : FnScope ["self", "name", "place", "one"] ["self", "name"] (defScope s_Sorts_place_of) := ⟨rfl, rfl, rfl, by decide +kernel, rfl, by decide +kernel, by decide +kernel⟩
theorem sc_Sorts_by_name : FnScope ["self", "name", "place"] ["self", "name"] (defScope s_Sorts_by_name) := ⟨rfl, rfl, rfl, by decide +kernel, rfl, by decide +kernel, by decide +kernel⟩
theorem sc_l_cell : FnScope ["script", "k"] ["script", "k"] (defScope s_l_cell) := ⟨rfl, rfl, rfl, by decide +kernel, rfl, by decide +kernel, by decide +kernel⟩
theorem sc_l_box : FnScope ["cell"] ["cell"] (defScope s_l_box) := ⟨rfl, rfl, rfl, by decide +kernel, rfl, by decide +kernel, by decide +kernel⟩
theorem sc_l_take : FnScope ["box", "many", "digit", "one", "other"] ["box", "many"] (defScope s_l_take) := ⟨rfl, rfl, rfl, by decide +kernel, rfl, by decide +kernel, by decide +kernel⟩
theorem sc_l_names : FnScope ["box", "many", "letters", "way", "first", "size", "step", "at", "stem", "words", "ends", "signs", "k", "sign"] ["box", "many"] (defScope s_l_names) := ⟨rfl, rfl, rfl, by decide +kernel, rfl, by decide +kernel, by decide +kernel⟩
theorem sc_l_bound : FnScope ["box", "low", "high", "many", "some"] ["box", "low", "high"] (defScope s_l_bound) := ⟨rfl, rfl, rfl, by decide +kernel, rfl, by decide +kernel, by decide +kernel⟩
theorem sc_l_parts : FnScope ["box", "called", "clan"] ["box", "called", "clan"] (defScope s_l_parts) := ⟨rfl, rfl, rfl, by decide +kernel, rfl, by decide +kernel, by decide +kernel⟩
theorem sc_l_rows : FnScope ["box", "names", "kins", "rows", "name", "kin"] ["box"] (defScope s_l_rows) := ⟨rfl, rfl, rfl, by decide +kernel, rfl, by decide +kernel, by decide +kernel⟩
theorem sc_l_other : FnScope ["box", "rows", "found", "way", "at", "to", "row"] ["box", "rows"] (defScope s_l_other) := ⟨rfl, rfl, rfl, by decide +kernel, rfl, by decide +kernel, by decide +kernel⟩
theorem sc_l_made : FnScope ["box", "rows", "some", "made", "row"] ["box", "rows"] (defScope s_l_made) := ⟨rfl, rfl, rfl, by decide +kernel, rfl, by decide +kernel, by decide +kernel⟩
theorem sc_l_kins : FnScope ["rows", "found", "row"] ["rows"] (defScope s_l_kins) := ⟨rfl, rfl, rfl, by decide +kernel, rfl, by decide +kernel, by decide +kernel⟩
theorem sc_l_asked : FnScope ["made", "way", "kin", "found", "one"] ["made", "way", "kin"] (defScope s_l_asked) := ⟨rfl, rfl, rfl, by decide +kernel, rfl, by decide +kernel, by decide +kernel⟩
theorem sc_l_right : FnScope ["box", "made", "rows", "whole", "some", "kin", "due", "left", "way", "found", "told", "row"] ["box", "made", "rows"] (defScope s_l_right) := ⟨rfl, rfl, rfl, by decide +kernel, rfl, by decide +kernel, by decide +kernel⟩
theorem sc_law : FnScope ["script", "k", "box", "first", "second", "pair", "at", "same", "found", "thing"] ["script"] (defScope s_law) := ⟨rfl, rfl, rfl, by decide +kernel, rfl, by decide +kernel, by decide +kernel⟩
theorem ok_NoName_init {P : Program} {w : World} {K : PySem.W.Frag} {mg : Str → Option Value} {base : Heap} (T : Tx K mg) : FnOk P w K mg base CX0 2 (a_NoName_init K) (fdOf K (a_NoName_init K)) ["self", "found"] (spInit K (He.ga K "NoName")) :=
  FunD.ok T.f_NoName_init sc_NoName_init (fun vs H Q E h => spInit_len h) (fun cdv A outer s H vs Q E hr h => ⟨_, (pss_cons (ps_expr (pe_binit T.y_WeekError rfl (pa_cons (pv 0) (pa_cons pe_str pa_nil))))
 (pss_one (ps_ost (pv 0) (pv 1)))), init_plain h⟩)
theorem ok_NoNumber_init {P : Program} {w : World} {K : PySem.W.Frag} {mg : Str → Option Value} {base : Heap} (T : Tx K mg) : FnOk P w K mg base CX0 2 (a_NoNumber_init K) (fdOf K (a_NoNumber_init K)) ["self", "found"] (spInit K (He.ga K "NoNumber")) :=
  FunD.ok T.f_NoNumber_init sc_NoNumber_init (fun vs H Q E h => spInit_len h) (fun cdv A outer s H vs Q E hr h => ⟨_, (pss_cons (ps_expr (pe_binit T.y_WeekError rfl (pa_cons (pv 0) (pa_cons pe_str pa_nil))))
 (pss_one (ps_ost (pv 0) (pv 1)))), init_plain h⟩)
theorem ok_NoList_init {P : Program} {w : World} {K : PySem.W.Frag} {mg : Str → Option Value} {base : Heap} (T : Tx K mg) : FnOk P w K mg base CX0 2 (a_NoList_init K) (fdOf K (a_NoList_init K)) ["self", "found"] (spInit K (He.ga K "NoList")) :=
  FunD.ok T.f_NoList_init sc_NoList_init (fun vs H Q E h => spInit_len h) (fun cdv A outer s H vs Q E hr h => ⟨_, (pss_cons (ps_expr (pe_binit T.y_WeekError rfl (pa_cons (pv 0) (pa_cons pe_str pa_nil))))
 (pss_one (ps_ost (pv 0) (pv 1)))), init_plain h⟩)
theorem ok_Doubled_init {P : Program} {w : World} {K : PySem.W.Frag} {mg : Str → Option Value} {base : Heap} (T : Tx K mg) : FnOk P w K mg base CX0 2 (a_Doubled_init K) (fdOf K (a_Doubled_init K)) ["self", "found"] (spInit K (He.ga K "Doubled")) :=
  FunD.ok T.f_Doubled_init sc_Doubled_init (fun vs H Q E h => spInit_len h) (fun cdv A outer s H vs Q E hr h => ⟨_, (pss_cons (ps_expr (pe_binit T.y_WeekError rfl (pa_cons (pv 0) (pa_cons pe_str pa_nil))))
 (pss_one (ps_ost (pv 0) (pv 1)))), init_plain h⟩)
end Wk
set_option maxRecDepth 100000
set_option maxHeartbeats 0
namespace Wk
open PySem PySem.Spec PyProof.Rows L2
def ln0 : List Str := ["_wall", "WeekError", "MissError", "NoName", "NoNumber", "NoList", "Doubled", "NotThere", "LETTERS", "LONGEST", "is_whole", "is_name", "MOST_NEEDS", "MOST_KEEPS", "COLD", "MOST_SORTS", "need_name", "need_number", "Sort", "are_sorts", "Sorts", "_law_cell", "_law_box", "_law_take", "_law_names", "_law_bound", "_law_parts", "_law_rows", "_law_other", "_law_made"]
def ln1 : List Str := ["_law_kins", "_law_asked", "_law_right"]
def loose : List Str := ln0 ++ ln1
abbrev Rw : PySem.W.OpenRow := PySem.W.OpenLaw.row PySem.Challenge.rw_weekheads_k09_lists_of_sorts
abbrev hk : PySem.W.Hook := WA.hookX cs fx fn
def ob (s : PySem.W.SharedT) : WA.AlX := WA.obsXG cs fx fn (HandSHeadRun.getT s)
theorem ob_eq (s : PySem.W.SharedT) : ob s = hk.obs s.abs := WA.obsXG_eq (HandSHeadRun.getT_eq s)
theorem run (w : World) : HandSHeadRun.RunEq Rw (PySem.W.view Rw.prog [37]) hk ob 20000 loose w := by
  intro os
  kernel_rfl
end Wk
section
open PySem PySem.W PySem.Calls PyProof.Rows
set_option maxRecDepth 100000 in
set_option maxHeartbeats 0 in
theorem Wk.lawFin (HC : ∀ {q : Program} {loose : List Str} {XP : (Str → Option Value) → Heap → Prop} {d : DefRec}, d.params.defaults = [] → d.name = "law" → PySem.W.WalkO q loose XP Wk.hk.says (PySem.W.OpenLaw.row PySem.Challenge.rw_weekheads_k09_lists_of_sorts).toRowW d [] (fun f vs => PySem.call f vs)) : PySem.Challenge.rw_weekheads_k09_lists_of_sorts.Holds := by
  w_on; o_law
  refine HandSHeadRun.head_any (r := OpenLaw.row PySem.Challenge.rw_weekheads_k09_lists_of_sorts) (q := view (OpenLaw.row PySem.Challenge.rw_weekheads_k09_lists_of_sorts).prog [37]) (H := Wk.hk) (ob := Wk.ob) (M := 20000) (loose := Wk.loose) (d := HandSHeadRun.topDef (OpenLaw.row PySem.Challenge.rw_weekheads_k09_lists_of_sorts).prog 37) (kwd := []) Wk.ob_eq
    (by kernel_rfl) (fun s => by kernel_rfl) Wk.run (by kernel_rfl) (by kernel_rfl) (by kernel_rfl) (by rfl) (by first | assumption | decide +kernel) (by decide +kernel) ⟨rfl, rfl, rfl, rfl, rfl, by decide +kernel⟩ ?hw ?hc
  case hw => w_witness2
  case hc => exact HC (by kernel_rfl) (by kernel_rfl)
end
set_option maxRecDepth 100000
set_option maxHeartbeats 4000000
namespace Wk
open PySem PySem.Spec PyProof.Rows L2
local macro_rules | `(tactic| wtm_at "mem") => `(tactic| fail)
local macro_rules | `(tactic| wtm_at "mem") => `(tactic| first
  | exact List.mem_cons_self ..
  | exact List.mem_cons_of_mem _ (List.mem_cons_self ..)
  | exact List.mem_cons_of_mem _ (List.mem_cons_of_mem _ (List.mem_cons_self ..))
  | exact List.mem_cons_of_mem _ (List.mem_cons_of_mem _ (List.mem_cons_of_mem _ (List.mem_cons_self ..)))
  | exact List.mem_cons_of_mem _ (List.mem_cons_of_mem _ (List.mem_cons_of_mem _ (List.mem_cons_of_mem _ (List.mem_cons_self ..)))))
local macro_rules | `(tactic| wtm_at "dat") => `(tactic| fail)
local macro_rules | `(tactic| wtm_at "dat") => `(tactic| first
  | assumption
  | (refine Ex.of ?_ (by assumption); wtm_at "dat"))
local macro_rules | `(tactic| wtm_at "ex") => `(tactic| fail)
local macro_rules | `(tactic| wtm_at "ex") => `(tactic| first
  | assumption
  | exact Ex.refl _
  | (refine Ex.trans ?_ (by assumption); wtm_at "ex"))
local macro_rules | `(tactic| wtm_at "hp") => `(tactic| fail)
local macro_rules | `(tactic| wtm_at "hp") => `(tactic| first
  | assumption
  | exact HI.get (by assumption) (by wtm_at "mem")
  | exact HI.dat (by assumption) (by wtm_at "dat"))
local macro_rules | `(tactic| wtm_at "hi") => `(tactic| fail)
local macro_rules | `(tactic| wtm_at "hi") => `(tactic| first
  | assumption
  | exact HI.swap (by assumption)
  | exact HI.up2 (by assumption)
  | exact HI.up3 (by assumption))
local macro_rules | `(tactic| wtm_at "num") => `(tactic| fail)
local macro_rules | `(tactic| wtm_at "num") => `(tactic| first
  | omega
  | decide
  | exact ⟨by decide, by decide⟩
  | exact cdiv_of (by omega) (by omega)
  | exact ⟨by omega, by omega⟩
  | (refine ⟨by omega, by omega, ?_⟩; omega)
  | exact Or.inl ⟨by omega, by omega⟩
  | exact Or.inr ⟨by omega, by omega⟩)
local macro_rules | `(tactic| wtm_at "kn") => `(tactic| fail)
local macro_rules | `(tactic| wtm_at "kn") => `(tactic| first
  | assumption
  | exact Kn.int _
  | exact Kn.str _
  | exact Kn.bl _
  | exact Kn.non
  | exact HI.kn (by assumption) (by assumption)
  | exact HI.kn (by assumption) (Kn.mono (by assumption) (by assumption))
  | exact Kn.lst (by wtm_at "hp")
  | exact Kn.tup (by wtm_at "hp")
  | exact Kn.dict (by wtm_at "hp"))
local macro_rules | `(tactic| wtm_at "s1x0") => `(tactic| fail)
local macro_rules | `(tactic| wtm_at "s1x0") => `(tactic| first
  | with_reducible refine st_seq ?_
  | with_reducible refine st_asg ?_
  | with_reducible refine st_ret ?_
  | with_reducible refine st_if ?_
  | with_reducible refine st_drop ?_
  | with_reducible refine st_next ?_
  | with_reducible refine st_brk ?_
  | with_reducible refine st_cont ?_
  | with_reducible refine sg_name ?_
  | with_reducible refine sg_sub ?_
  | with_reducible refine sg_nil ?_
  | with_reducible refine sg_cons ?_)
local macro_rules | `(tactic| wtm_at "s1x1") => `(tactic| fail)
local macro_rules | `(tactic| wtm_at "s1x1") => `(tactic| first
  | ((with_reducible refine' sg_tup ?e1 ?e2 ?_); (case e1 => exact SqT.of (by wtm_at "hp")); (case e2 => rfl))
  | ((with_reducible refine' se_var ?e1 ?_); (case e1 => rfl))
  | with_reducible refine se_c ?_
  | with_reducible refine se_op ?_
  | with_reducible refine se_un ?_
  | with_reducible refine se_tup ?_
  | with_reducible refine se_lst ?_
  | with_reducible refine se_lstM ?_
  | with_reducible refine st_for ?_
  | with_reducible refine se_lc ?_
  | with_reducible refine it_rng1 ?_
  | with_reducible refine it_rng2 ?_)
local macro_rules | `(tactic| wtm_at "s1x2") => `(tactic| fail)
local macro_rules | `(tactic| wtm_at "s1x2") => `(tactic| first
  | with_reducible refine it_list ?_
  | with_reducible refine it_str ?_
  | with_reducible refine strI_mk ?_
  | ((with_reducible refine' list_mk ?e1 ?_); (case e1 => wtm_at "hp"))
  | ((with_reducible refine' rng1_mk ?e1 ?e2 ?_); (case e1 => omega); (case e2 => omega))
  | ((with_reducible refine' rng2_mk ?e1 ?_); (case e1 => omega))
  | with_reducible refine st_yes ?_
  | ((with_reducible refine' al_D ?e1 ?_); (case e1 => assumption); intro _ _ _ _ _ _)
  | ((with_reducible refine' al_M ?e1 ?_); (case e1 => assumption); intro _ _ _)
  | ((with_reducible refine' and_on ?e1 ?_); (case e1 => first | exact small_ok (Nat.le_of_ble_eq_true rfl) | rfl | omega))
  | with_reducible refine sa_nil ?_
  | with_reducible refine sa_cons ?_)
local macro_rules | `(tactic| wtm_at "s1x3") => `(tactic| fail)
local macro_rules | `(tactic| wtm_at "s1x3") => `(tactic| first
  | with_reducible refine se_cb ?_
  | with_reducible refine se_if ?_
  | with_reducible refine st_test ?_
  | with_reducible refine st_B ?_
  | with_reducible refine st_bl ?_
  | with_reducible refine st_and ?_
  | with_reducible refine st_or ?_
  | with_reducible refine st_not ?_
  | with_reducible refine ri0_mk ?_
  | with_reducible refine ru_mk ?_
  | ((with_reducible refine' ri_mk ?e1 ?_); (case e1 => wtm_at "num"))
  | with_reducible refine RAdd.int ?_)
local macro_rules | `(tactic| wtm_at "s1x4") => `(tactic| fail)
local macro_rules | `(tactic| wtm_at "s1x4") => `(tactic| first
  | ((with_reducible refine' RMul.int ?e1 ?_); (case e1 => wtm_at "num"))
  | with_reducible refine req_int ?_
  | with_reducible refine rne_int ?_
  | with_reducible refine req_str ?_
  | with_reducible refine rne_str ?_
  | ((with_reducible refine' RIx.l ?e1 ?e2 ?_); (case e1 => wtm_at "hp"); (case e2 => rfl))
  | ((with_reducible refine' set_c ?e1 ?e2 ?_); (case e1 => assumption); (case e2 => rfl); intro _ _)
  | ((with_reducible refine' set_c2 ?e1 ?e2 ?_); (case e1 => assumption); (case e2 => rfl); intro _ _)
  | ((with_reducible refine' set_c3 ?e1 ?e2 ?_); (case e1 => assumption); (case e2 => rfl); intro _ _)
  | with_reducible refine iteT ?_
  | with_reducible refine iteF ?_
  | ((with_reducible refine' if_yes ?e1 ?_); (case e1 => omega)))
local macro_rules | `(tactic| wtm_at "s1x5") => `(tactic| fail)
local macro_rules | `(tactic| wtm_at "s1x5") => `(tactic| first
  | ((with_reducible refine' if_no ?e1 ?_); (case e1 => omega))
  | ((with_reducible refine' if_yesN ?e1 ?_); (case e1 => omega))
  | ((with_reducible refine' if_noN ?e1 ?_); (case e1 => omega))
  | ((with_reducible refine' RIx.t ?e1 ?e2 ?_); (case e1 => wtm_at "hp"); (case e2 => rfl))
  | with_reducible refine se_andV ?_
  | with_reducible refine se_orV ?_
  | with_reducible refine se_notV ?_
  | with_reducible refine se_chain ?_
  | with_reducible refine se_sl ?_
  | with_reducible refine so_none ?_
  | with_reducible refine so_some ?_
  | with_reducible refine so_int ?_)
local macro_rules | `(tactic| wtm_at "s1x6") => `(tactic| fail)
local macro_rules | `(tactic| wtm_at "s1x6") => `(tactic| first
  | with_reducible refine se_m1 ?_
  | with_reducible refine se_m0 ?_
  | with_reducible refine m_str ?_
  | with_reducible refine se_mkE ?_
  | ((with_reducible refine' mkE_now ?e1 ?_); (case e1 => assumption); intro _ _ _ _ _ _ _ _)
  | with_reducible refine st_raiseX ?_
  | ((with_reducible refine' mkX_now ?e1 ?_); (case e1 => assumption); intro _ _ _ _ _ _)
  | with_reducible refine st_par ?_
  | with_reducible refine par_mk ?_
  | ((with_reducible refine' st_aug ?e1 ?_); (case e1 => rfl))
  | ((with_reducible refine' RIsi.ty ?e1 ?e2 ?_); (case e1 => wtm_at "kn"); (case e2 => decide))
  | with_reducible refine ris_non ?_)
local macro_rules | `(tactic| wtm_at "s1x7") => `(tactic| fail)
local macro_rules | `(tactic| wtm_at "s1x7") => `(tactic| first
  | with_reducible refine ris_nonN ?_
  | with_reducible refine ris_bl ?_
  | with_reducible refine ris_blN ?_
  | with_reducible refine rin_sign ?_
  | with_reducible refine rni_sign ?_
  | ((with_reducible refine' RLen.str ?e1 ?_); (case e1 => first | exact small_ok (by omega) | exact small_ok (Nat.le_of_ble_eq_true rfl)))
  | ((with_reducible refine' RLen.lst ?e1 ?_); (case e1 => wtm_at "hp"))
  | ((with_reducible refine' RLen.frz ?e1 ?_); (case e1 => wtm_at "hp"))
  | ((with_reducible refine' RLen.tup ?e1 ?_); (case e1 => wtm_at "hp"))
  | (with_reducible refine RMx.mk ?_; intro _ _ _ _)
  | (with_reducible refine RMn.mk ?_; intro _ _ _ _)
  | with_reducible refine RStarts.mk ?_)
local macro_rules | `(tactic| wtm_at "s1x8") => `(tactic| fail)
local macro_rules | `(tactic| wtm_at "s1x8") => `(tactic| first
  | with_reducible refine RFind.mk ?_
  | with_reducible refine RInt.bl ?_
  | ((with_reducible refine' RAll.mk ?e1 ?_); (case e1 => wtm_at "hp")))
local macro_rules | `(tactic| wtm_at "s1") => `(tactic| fail)
local macro_rules | `(tactic| wtm_at "s1") => `(tactic| first
  | wtm_at "s1x0"
  | wtm_at "s1x1"
  | wtm_at "s1x2"
  | wtm_at "s1x3"
  | wtm_at "s1x4"
  | wtm_at "s1x5"
  | wtm_at "s1x6"
  | wtm_at "s1x7"
  | wtm_at "s1x8")
local macro_rules | `(tactic| wtm_at "sx") => `(tactic| fail)
local macro_rules | `(tactic| wtm_at "sx") => `(tactic| repeat (wtm_at "s1"; try dsimp only [List.set, Int.reduceToNat]))
local macro_rules | `(tactic| wtm_at "go") => `(tactic| fail)
local macro_rules | `(tactic| wtm_at "go") => `(tactic| (dsimp only [cxOf, L2.start, List.map, List.length, List.replicate, Nat.reduceAdd, Nat.reduceSub, List.replicate, HAppend.hAppend, Append.append, List.append]; wtm_at "sx"))
local macro_rules | `(tactic| wtm_at "sxm") => `(tactic| fail)
local macro_rules | `(tactic| wtm_at "sxm") => `(tactic| repeat (first | ((with_reducible refine' mod_let ?e1 ?_); (case e1 => omega); intro _ _ _) | wtm_at "s1"; try dsimp only [List.set, Int.reduceToNat]))
local macro_rules | `(tactic| wtm_at "go0") => `(tactic| fail)
local macro_rules | `(tactic| wtm_at "go0") => `(tactic| dsimp only [cxOf, L2.start, List.map, List.length, List.replicate, Nat.reduceAdd, Nat.reduceSub, List.replicate, HAppend.hAppend, Append.append, List.append])
/-- the three numbers of a box, drawn at most n times -/
structure BoxOk (n : Nat) (x y z : Int) : Prop where
  x0 : 0 ≤ x
  y0 : 0 ≤ y
  y1 : y < 2147483629
  z0 : 0 ≤ z
  z1 : z ≤ n
abbrev bx (x y z : Int) : HO := .lst [.int x, .int y, .int z]
/-- a draw: below many, the box drawn once more -/
def spTake : Sp := fun vs H Q _ => ∃ (b : Addr) (m : Int) (R : List (Addr × HO)) (D : Hp) (x y z : Int) (n : Nat), vs = [.ref b, .int m] ∧ 0 < m ∧ m < 2 ^ 100 ∧ HI H ((b, bx x y z) :: R) D ∧ BoxOk n x y z ∧ n < 1000000 ∧
  ∀ r x' y' z' H', HI H' ((b, bx x' y' z') :: R) D → BoxOk (n + 1) x' y' z' → 0 ≤ r → r < m → Q (.int r) H'
theorem take_now {b : Addr} {m : Int} {R : List (Addr × HO)} {D H : Hp} {x y z : Int} {n : Nat} {Q : VK} {E : XK} (hi : HI H ((b, bx x y z) :: R) D) (m0 : 0 < m) (m1 : m < 2 ^ 100) (hb : BoxOk n x y z) (hn : n < 1000000)
    (k : ∀ r x' y' z' H', HI H' ((b, bx x' y' z') :: R) D → BoxOk (n + 1) x' y' z' → 0 ≤ r → r < m → Q (.int r) H') : spTake ([V.ref b, V.int m] ++ []) H Q E := ⟨b, m, R, D, x, y, z, n, rfl, m0, m1, hi, hb, hn, k⟩
set_option maxHeartbeats 400000 in
theorem ok_l_take {P : Program} {w : World} {K : PySem.W.Frag} {mg : Str → Option Value} {base : Heap} (T : Tx K mg) : FnG P w K mg base 1 (a_l_take K) ["box", "many"] spTake := by
  refine T.f_l_take.ok sc_l_take (fun vs H Q E h => ?_) (fun cdv A outer s H vs Q E hgu hr h => ⟨_, (pss_cons (ps_if (pt_cmpR op_gt (pe_ix ix_U (pv 0) pe_int (fun _ _ => rfl)) pe_int (nomark _)) (pss_cons (ps_set (i := 2) sc_l_take.nd rfl (Or.inl rfl) (pe_op op_mod (pe_ix ix_U (pv 0) pe_int (fun _ _ => rfl)) (pv 1)))
 (pss_cons (ps_asg (pe_op op_fdivW (pe_ix ix_U (pv 0) pe_int (fun _ _ => rfl)) (pv 1)) (pg_sub (pv 0) pe_int set_list))
 (pss_one (ps_ret (pv 2))))) pss_nil)
 (pss_cons (ps_asg (pe_op op_addU (pe_ix ix_U (pv 0) pe_int (fun _ _ => rfl)) pe_int) (pg_sub (pv 0) pe_int set_list))
 (pss_cons (ps_set (i := 3) sc_l_take.nd rfl (Or.inl rfl) (pe_op op_mod (pe_op op_pow (pe_op op_addU (pe_op op_addU (pe_ix ix_U (pv 0) pe_int (fun _ _ => rfl)) (pe_op op_mulU pe_int (pe_ix ix_U (pv 0) pe_int (fun _ _ => rfl)))) pe_int) pe_int) pe_int))
 (pss_cons (ps_set (i := 4) sc_l_take.nd rfl (Or.inl rfl) (pe_op op_mod (pe_op op_pow (pe_op op_addU (pe_op op_addU (pe_op op_fdivW (pv 3) pe_int) (pe_op op_mulU (pe_op op_mulU pe_int (pe_ix ix_U (pv 0) pe_int (fun _ _ => rfl))) (pe_ix ix_U (pv 0) pe_int (fun _ _ => rfl)))) pe_int) pe_int) pe_int))
 (pss_one (ps_ret (pe_op op_mod (pe_op op_addU (pe_op op_fdivW (pv 3) pe_int) (pe_op op_mulU pe_int (pe_op op_fdivW (pv 4) pe_int))) (pv 1)))))))), ?_⟩)
  · obtain ⟨b, m, R, D, x, y, z, n, rfl, _⟩ := h
    rfl
  · obtain ⟨b, m, R, D, x, y, z, n, rfl, m0, m1, hi, hb, hn, k⟩ := h
    obtain ⟨x0, y0, y1, z0, z1⟩ := hb
    wtm_at "go"
    refine if_dec (fun h => ?_) (fun h => ?_)
    · wtm_at "sx"
      exact k _ _ _ _ _ (by assumption) ⟨Int.ediv_nonneg x0 (by omega), y0, y1, z0, by omega⟩ (Int.emod_nonneg _ (by omega)) (Int.emod_lt_of_pos _ m0)
    · wtm_at "sxm"
      refine ri_mk ⟨by decide, by decide, pow_ok (by omega) (by omega) (by omega) (by omega) (by omega) (by omega) (by omega) (by omega)⟩ ?_
      wtm_at "sxm"
      exact k _ _ _ _ _ (by assumption) ⟨x0, y0, y1, by omega, by omega⟩ (by assumption) (by assumption)
theorem take_more {α : Type} : ∀ {l : List α} {i : Nat} {x : α}, l[i]? = some x → l.take (i + 1) = l.take i ++ [x]
  | [], i, x, h => by simp at h
  | a :: l, 0, x, h => by
    have e : a = x := Option.some.inj h
    subst e
    rfl
  | a :: l, i + 1, x, h => by
    have ih := take_more (l := l) (i := i) (x := x) h
    show a :: l.take (i + 1) = a :: l.take i ++ [x]
    rw [ih]
    rfl
theorem cps_get {z : Str} {i c : Nat} (h : z.cps[i]? = some c) : z.cps.toList[i]? = some c := by
  rw [← h]
  simp
theorem cps_len {z : Str} : z.cps.toList.length = z.length := rfl
def spCell : Sp := fun vs H Q _ => ∃ (l : Addr) (o : Obj) (k : Int) (ns : List Int) (R : Cells) (D : Hp), vs = [.ref l, .int k] ∧ HI H R D ∧ D l = some (.frz o (.lst (ns.map V.int))) ∧ 0 ≤ k ∧ k < 1000 ∧ ∀ c H', HI H' R D → Q (.int c) H'
def spBox : Sp := fun vs H Q _ => ∃ (c : Int) (R : Cells) (D : Hp), vs = [.int c] ∧ HI H R D ∧ ∀ b x y H', HI H' ((b, bx x y 0) :: R) D → BoxOk 0 x y 0 → Q (.ref b) H'
set_option maxHeartbeats 400000 in
theorem ok_l_cell {P : Program} {w : World} {K : PySem.W.Frag} {mg : Str → Option Value} {base : Heap} (T : Tx K mg) : FnG P w K mg base 1 (a_l_cell K) ["script", "k"] spCell := by
  refine T.f_l_cell.ok sc_l_cell (fun vs H Q E h => ?_) (fun cdv A outer s H vs Q E hgu hr h => ⟨_, (pss_cons (ps_if (pt_cmpR op_lt (pv 1) (pe_callB (call_lenU) (by rfl) T.n_len boot_len (pa_cons (pv 0) pa_nil)) (nomark _)) (pss_one (ps_ret (pe_ix ix_U (pv 0) (pv 1) (fun _ _ => rfl)))) pss_nil)
 (pss_one (ps_ret (pe_op op_addU (pe_op op_mulU pe_int (pv 1)) pe_int)))), ?_⟩)
  · obtain ⟨l, o, k, ns, R, D, rfl, _⟩ := h
    rfl
  · obtain ⟨l, o, k, ns, R, D, rfl, hi, hl, k0, k1, go⟩ := h
    wtm_at "go"
    refine if_dec (fun h => ?_) (fun h => ?_)
    · wtm_at "sx"
      rw [List.length_map] at h
      obtain ⟨j, rfl⟩ := Int.eq_ofNat_of_zero_le k0
      have hj : j < ns.length := by omega
      refine RIx.f (by wtm_at "hp") (atI_map (List.getElem?_eq_getElem hj)) ?_
      exact go _ _ (by assumption)
    · wtm_at "sx"
      exact go _ _ (by assumption)
set_option maxHeartbeats 400000 in
theorem ok_l_box {P : Program} {w : World} {K : PySem.W.Frag} {mg : Str → Option Value} {base : Heap} (T : Tx K mg) : FnG P w K mg base 1 (a_l_box K) ["cell"] spBox := by
  refine T.f_l_box.ok sc_l_box (fun vs H Q E h => ?_) (fun cdv A outer s H vs Q E hgu hr h => ⟨_, (pss_one (ps_ret (pe_lstM (pa_cons (pe_callB (call_maxU rfl) (by rfl) T.n_max boot_max (pa_cons pe_int (pa_cons (pe_op op_sub (pv 0) (pe_op op_pow pe_int pe_int)) pa_nil))) (pa_cons (pe_op op_mod (pv 0) pe_int) (pa_cons pe_int pa_nil)))))), ?_⟩)
  · obtain ⟨c, R, D, rfl, _⟩ := h
    rfl
  · obtain ⟨c, R, D, rfl, hi, go⟩ := h
    wtm_at "go"
    wtm_at "sxm"
    exact go _ _ _ _ (by assumption) ⟨by omega, by omega, by omega, by omega, by omega⟩
theorem cell_now {l : Addr} {o : Obj} {k : Int} {ns : List Int} {R : Cells} {D H : Hp} {Q : VK} {E : XK} (hi : HI H R D) (hl : D l = some (.frz o (.lst (ns.map V.int)))) (k0 : 0 ≤ k) (k1 : k < 1000) (q : ∀ c H', HI H' R D → Q (.int c) H') : spCell ([V.ref l, V.int k] ++ []) H Q E := ⟨l, o, k, ns, R, D, rfl, hi, hl, k0, k1, q⟩
theorem box_now {c : Int} {R : Cells} {D H : Hp} {Q : VK} {E : XK} (hi : HI H R D) (q : ∀ b x y H', HI H' ((b, bx x y 0) :: R) D → BoxOk 0 x y 0 → Q (.ref b) H') : spBox ([V.int c] ++ []) H Q E := ⟨c, R, D, rfl, hi, q⟩
local macro_rules | `(tactic| wtm_at "s2") => `(tactic| fail)
local macro_rules | `(tactic| wtm_at "s2") => `(tactic| first
  | wtm_at "s1"
  | with_reducible refine se_call1 ?_
  | with_reducible refine se_callN ?_
  | with_reducible refine se_dnewK ?_
  | ((with_reducible refine' se_disp ?e1 ?_); (case e1 => assumption); intro _ _ _)
  | with_reducible refine sp_cons ?_
  | with_reducible refine sp_nil ?_
  | ((with_reducible refine' disp_now ?e1 ?e2 ?e3 ?_); (case e1 => assumption); (case e2 => rfl); (case e3 => exact Nat.le_of_ble_eq_true rfl); intro _ _ _ _ _)
  | ((with_reducible refine' RAdd.lst ?e1 ?e2 ?e3 ?_); (case e1 => wtm_at "hp"); (case e2 => wtm_at "hp"); (case e3 => exact small_ok (Nat.le_of_ble_eq_true rfl)))
  | ((with_reducible refine' RMul.lst ?e1 ?e2 ?e3 ?e4 ?_); (case e1 => wtm_at "hp"); (case e2 => omega); (case e3 => omega); (case e4 => exact small_ok (Nat.le_of_ble_eq_true rfl)))
  | ((with_reducible refine' RStr.int ?e1 ?_); (case e1 => exact log2_small (by omega)))
  | ((with_reducible refine' RSl.str ?e1 ?_); (case e1 => first | exact small_ok (by omega) | exact small_ok (Nat.le_of_ble_eq_true rfl)))
  | ((with_reducible refine' RAdd.str ?e1 ?_); (case e1 => exact small_ok (by omega)))
  | ((with_reducible refine' take_now ?e1 ?e2 ?e3 ?e4 ?e5 ?_); (case e1 => wtm_at "hi"); (case e2 => omega); (case e3 => omega); (case e4 => assumption); (case e5 => omega); intro _ _ _ _ _ _ _ _ _))
local macro_rules | `(tactic| wtm_at "sy") => `(tactic| fail)
local macro_rules | `(tactic| wtm_at "sy") => `(tactic| repeat (wtm_at "s2"; try dsimp only [List.set, Int.reduceToNat]))
local macro_rules | `(tactic| wtm_at "sz1") => `(tactic| fail)
local macro_rules | `(tactic| wtm_at "sz1") => `(tactic| first
  | ((with_reducible refine' rsl_some ?e1 ?e2 ?_); (case e1 => omega); (case e2 => assumption); intro _ _ _)
  | ((with_reducible refine' radd_some ?e1 ?e2 ?e3 ?_); (case e1 => omega); (case e2 => assumption); (case e3 => assumption); intro _ _ _)
  | ((with_reducible refine' rmul_some ?e1 ?e3 ?e4 ?e5 ?_); (case e1 => rfl); (case e3 => omega); (case e4 => omega); (case e5 => exact sg_of rfl); intro _ _ _)
  | wtm_at "s2")
local macro_rules | `(tactic| wtm_at "sz") => `(tactic| fail)
local macro_rules | `(tactic| wtm_at "sz") => `(tactic| repeat (wtm_at "sz1"; try dsimp only [List.set, Int.reduceToNat]))
local macro_rules | `(tactic| wtm_at "s3x1") => `(tactic| fail)
local macro_rules | `(tactic| wtm_at "s3x1") => `(tactic| first
  | with_reducible refine se_fld ?_
  | with_reducible refine st_fld ?_
  | ((with_reducible refine' fld_mk ?e1 ?e2 ?e3 ?e4 ?_); (case e1 => wtm_at "hp"); (case e2 => assumption); (case e3 => wtm_at "mem"); (case e4 => rfl))
  | ((with_reducible refine' sfld_now ?e1 ?e2 ?e3 ?e4 ?_); (case e1 => wtm_at "hi"); (case e2 => assumption); (case e3 => wtm_at "mem"); (case e4 => exact Nat.lt_of_lt_of_le (Nat.lt_succ_self _) (Nat.le_of_ble_eq_true rfl)); intro _ _)
  | with_reducible refine se_meth ?_
  | with_reducible refine se_methN ?_
  | ((with_reducible refine' meth_mk ?e1 ?e2 ?_); (case e1 => wtm_at "hp"); (case e2 => rfl))
  | with_reducible refine se_make ?_
  | with_reducible refine se_makeN ?_
  | ((with_reducible refine' make_now ?e1 ?_); (case e1 => assumption); intro _ _ _ _)
  | with_reducible refine se_fmt ?_
  | ((with_reducible refine' RFmt.str ?e1 ?_); (case e1 => omega)))
local macro_rules | `(tactic| wtm_at "s3x2") => `(tactic| fail)
local macro_rules | `(tactic| wtm_at "s3x2") => `(tactic| first
  | ((with_reducible refine' RFmt.int ?e1 ?_); (case e1 => exact log2_small (by omega)))
  | with_reducible refine sj_nil ?_
  | with_reducible refine sj_cons ?_
  | ((with_reducible refine' js_mk ?e1 ?_); (case e1 => omega))
  | ((with_reducible refine' and_on ?e1 ?_); (case e1 => exact small_ok (by simp only [len_app]; omega))))
local macro_rules | `(tactic| wtm_at "s3") => `(tactic| fail)
local macro_rules | `(tactic| wtm_at "s3") => `(tactic| first
  | wtm_at "s2"
  | wtm_at "s3x1"
  | wtm_at "s3x2")
local macro_rules | `(tactic| wtm_at "sc") => `(tactic| fail)
local macro_rules | `(tactic| wtm_at "sc") => `(tactic| repeat (wtm_at "s3"; try dsimp only [List.set, Int.reduceToNat]))
local macro_rules | `(tactic| wtm_at "s4") => `(tactic| fail)
local macro_rules | `(tactic| wtm_at "s4") => `(tactic| first
  | wtm_at "s3"
  | with_reducible refine se_bm ?_
  | with_reducible refine se_bm0 ?_
  | ((with_reducible refine' bm_ty ?e1 ?_); (case e1 => wtm_at "hp"))
  | ((with_reducible refine' app_now ?e1 ?e2 ?_); (case e1 => wtm_at "hi"); (case e2 => first | omega | exact Nat.lt_of_lt_of_le (Nat.lt_succ_self _) (Nat.le_of_ble_eq_true rfl)); intro _ _))
local macro_rules | `(tactic| wtm_at "sd") => `(tactic| fail)
local macro_rules | `(tactic| wtm_at "sd") => `(tactic| repeat (wtm_at "s4"; try dsimp only [List.set, Int.reduceToNat]))
local macro_rules | `(tactic| wtm_at "s5x0") => `(tactic| fail)
local macro_rules | `(tactic| wtm_at "s5x0") => `(tactic| first
  | with_reducible refine rne_same ?_
  | with_reducible refine req_same ?_)
local macro_rules | `(tactic| wtm_at "s5x2") => `(tactic| fail)
local macro_rules | `(tactic| wtm_at "s5x2") => `(tactic| first
  | ((with_reducible refine' if_kT ?e1 ?_); (case e1 => first | assumption | rfl))
  | ((with_reducible refine' if_kF ?e1 ?_); (case e1 => first | assumption | rfl))
  | ((with_reducible refine' if_nkT ?e1 ?_); (case e1 => first | assumption | rfl))
  | ((with_reducible refine' if_nkF ?e1 ?_); (case e1 => first | assumption | rfl))
  | ((with_reducible refine' if_tagF ?e1 ?_); (case e1 => rfl))
  | ((with_reducible refine' if_tagN ?e1 ?_); (case e1 => rfl))
  | ((with_reducible refine' if_yes ?e1 ?_); (case e1 => with_reducible rfl))
  | ((with_reducible refine' if_yesN ?e1 ?_); (case e1 => with_reducible rfl))
  | with_reducible refine if_notT ?_
  | with_reducible refine if_notF ?_
  | with_reducible refine it_zip ?_
  | with_reducible refine it_enum ?_)
local macro_rules | `(tactic| wtm_at "s5x3") => `(tactic| fail)
local macro_rules | `(tactic| wtm_at "s5x3") => `(tactic| first
  | with_reducible refine it_tup ?_
  | ((with_reducible refine' zip_mk ?e1 ?e2 ?_); (case e1 => wtm_at "hp"); (case e2 => wtm_at "hp"))
  | ((with_reducible refine' enum_mk ?e1 ?_); (case e1 => wtm_at "hp"))
  | ((with_reducible refine' tupI_mk ?e1 ?_); (case e1 => wtm_at "hp"))
  | with_reducible refine st_try ?_
  | with_reducible refine se_by ?_
  | ((with_reducible refine' RTupO.l ?e1 ?_); (case e1 => wtm_at "hp"))
  | ((with_reducible refine' RListO.l ?e1 ?_); (case e1 => wtm_at "hp"))
  | ((with_reducible refine' RListO.t ?e1 ?_); (case e1 => wtm_at "hp"))
  | ((with_reducible refine' RListM.l ?e1 ?_); (case e1 => wtm_at "hp")))
local macro_rules | `(tactic| wtm_at "s5") => `(tactic| fail)
local macro_rules | `(tactic| wtm_at "s5") => `(tactic| first
  | wtm_at "s5x0"
  | wtm_at "s4"
  | wtm_at "s5x2"
  | wtm_at "s5x3")
local macro_rules | `(tactic| wtm_at "se") => `(tactic| fail)
local macro_rules | `(tactic| wtm_at "se") => `(tactic| repeat (wtm_at "s5"; try dsimp only [List.set, Int.reduceToNat]))
local macro_rules | `(tactic| wtm_at "sl") => `(tactic| fail)
local macro_rules | `(tactic| wtm_at "sl") => `(tactic| first
  | exact List.Sublist.refl _
  | (refine List.Sublist.cons₂ _ ?_; wtm_at "sl")
  | (refine List.Sublist.cons _ ?_; wtm_at "sl"))
local macro_rules | `(tactic| wtm_at "keep") => `(tactic| fail)
local macro_rules | `(tactic| wtm_at "keep") => `(tactic| exact HI.sublist (by assumption) (by wtm_at "sl"))
local macro_rules | `(tactic| wtm_at "s6x1") => `(tactic| fail)
local macro_rules | `(tactic| wtm_at "s6x1") => `(tactic| first
  | with_reducible refine se_dget2 ?_
  | with_reducible refine ip_mk ?_
  | with_reducible refine se_dnewM ?_
  | with_reducible refine se_dget1 ?_
  | ((with_reducible refine' dg_mk ?e1 ?_); (case e1 => wtm_at "hp"))
  | ((with_reducible refine' dq_i ?e1 ?_); (case e1 => wtm_at "hp"))
  | ((with_reducible refine' dq_s ?e1 ?_); (case e1 => wtm_at "hp"))
  | with_reducible refine se_dsub ?_
  | with_reducible refine se_din ?_
  | with_reducible refine se_dni ?_
  | ((with_reducible refine' di_i ?e1 ?_); (case e1 => wtm_at "hp"))
  | ((with_reducible refine' di_s ?e1 ?_); (case e1 => wtm_at "hp")))
local macro_rules | `(tactic| wtm_at "s6x2") => `(tactic| fail)
local macro_rules | `(tactic| wtm_at "s6x2") => `(tactic| first
  | with_reducible refine st_dput ?_
  | ((with_reducible refine' dp_i ?e1 ?e2 ?_); (case e1 => wtm_at "hi"); (case e2 => omega); intro _ _)
  | ((with_reducible refine' dp_s ?e1 ?e2 ?_); (case e1 => wtm_at "hi"); (case e2 => omega); intro _ _)
  | with_reducible refine se_dpop1 ?_
  | with_reducible refine it_seq ?_
  | ((with_reducible refine' seq_l ?e1 ?_); (case e1 => wtm_at "hp"))
  | ((with_reducible refine' seq_t ?e1 ?_); (case e1 => wtm_at "hp")))
local macro_rules | `(tactic| wtm_at "s6") => `(tactic| fail)
local macro_rules | `(tactic| wtm_at "s6") => `(tactic| first
  | wtm_at "s5"
  | wtm_at "s6x1"
  | wtm_at "s6x2")
local macro_rules | `(tactic| wtm_at "sg") => `(tactic| fail)
local macro_rules | `(tactic| wtm_at "sg") => `(tactic| repeat (wtm_at "s6"; try dsimp only [List.set, Int.reduceToNat]))
local macro_rules | `(tactic| wtm_at "s7") => `(tactic| fail)
local macro_rules | `(tactic| wtm_at "s7") => `(tactic| first
  | wtm_at "s6"
  | with_reducible refine st_augS ?_
  | with_reducible refine se_revL ?_
  | ((with_reducible refine' rv_mk ?e1 ?_); (case e1 => wtm_at "hp"))
  | ((with_reducible refine' RGetL.l ?e1 ?e2 ?e3 ?_); (case e1 => wtm_at "hp"); (case e2 => omega); (case e3 => assumption)))
local macro_rules | `(tactic| wtm_at "sh") => `(tactic| fail)
local macro_rules | `(tactic| wtm_at "sh") => `(tactic| repeat (wtm_at "s7"; try dsimp only [List.set, Int.reduceToNat]))
local macro_rules | `(tactic| wtm_at "s8") => `(tactic| fail)
local macro_rules | `(tactic| wtm_at "s8") => `(tactic| first
  | wtm_at "s7"
  | with_reducible refine se_fmtO ?_)
local macro_rules | `(tactic| wtm_at "si") => `(tactic| fail)
local macro_rules | `(tactic| wtm_at "si") => `(tactic| repeat (wtm_at "s8"; try dsimp only [List.set, Int.reduceToNat]))
local macro_rules | `(tactic| wtm_at "hi") => `(tactic| exact HI.up4 (by assumption))
local macro_rules | `(tactic| wtm_at "s9x0") => `(tactic| fail)
local macro_rules | `(tactic| wtm_at "s9x0") => `(tactic| first
  | ((with_reducible refine' disp_nowM ?e1 ?e2 ?e3 ?_); (case e1 => assumption); (case e2 => rfl); (case e3 => exact Nat.le_of_ble_eq_true rfl); intro _ _))
local macro_rules | `(tactic| wtm_at "s9x2") => `(tactic| fail)
local macro_rules | `(tactic| wtm_at "s9x2") => `(tactic| first
  | with_reducible refine st_par3 ?_
  | with_reducible refine par3_mk ?_
  | with_reducible refine se_mkQ ?_
  | ((with_reducible refine' mkQ_now ?e1 ?_); (case e1 => assumption); intro _ _ _ _ _ _ _ _ _ _)
  | ((with_reducible refine' se_dispM ?e1 ?_); (case e1 => assumption); intro _ _ _))
local macro_rules | `(tactic| wtm_at "s9") => `(tactic| fail)
local macro_rules | `(tactic| wtm_at "s9") => `(tactic| first
  | wtm_at "s9x0"
  | wtm_at "s8"
  | wtm_at "s9x2")
local macro_rules | `(tactic| wtm_at "sj") => `(tactic| fail)
local macro_rules | `(tactic| wtm_at "sj") => `(tactic| repeat (wtm_at "s9"; try dsimp only [List.set, Int.reduceToNat]))
local macro_rules | `(tactic| wtm_at "s11") => `(tactic| fail)
local macro_rules | `(tactic| wtm_at "s11") => `(tactic| first
  | wtm_at "s9"
  | with_reducible refine it_enumF ?_
  | ((with_reducible refine' enumF_mk ?e1 ?e2 ?_); (case e1 => wtm_at "hp"); (case e2 => decide))
  | with_reducible refine it_rng3 ?_
  | ((with_reducible refine' rng3_dn ?e1 ?_); (case e1 => omega))
  | with_reducible refine it_items ?_)
local macro_rules | `(tactic| wtm_at "sm") => `(tactic| fail)
local macro_rules | `(tactic| wtm_at "sm") => `(tactic| repeat (wtm_at "s11"; try dsimp only [List.set, Int.reduceToNat]))
local macro_rules | `(tactic| wtm_at "s12") => `(tactic| fail)
local macro_rules | `(tactic| wtm_at "s12") => `(tactic| first
  | wtm_at "s11"
  | with_reducible refine se_lrg ?_
  | ((with_reducible refine' lrg_mk ?e1 ?_); (case e1 => exact RgOk.of_le (by omega) (by omega) (by omega) (by omega))))
local macro_rules | `(tactic| wtm_at "sn") => `(tactic| fail)
local macro_rules | `(tactic| wtm_at "sn") => `(tactic| repeat (wtm_at "s12"; try dsimp only [List.set, Int.reduceToNat]))
def wholeB : V → Int → Int → Bool
  | .int i, lo, hi => decide (lo ≤ i) && decide (i ≤ hi)
  | _, _, _ => false
def spWhole (K : PySem.W.Frag) : Sp := fun vs H Q _ => ∃ (v : V) (lo hi : Int) (R : Cells) (D : Hp), vs = [v, .int lo, .int hi] ∧ HI H R D ∧ Mt K R D v ∧ ∀ H', HI H' R D → Q (.bl (wholeB v lo hi)) H'
set_option maxHeartbeats 400000 in
theorem ok_is_whole {P : Program} {w : World} {K : PySem.W.Frag} {mg : Str → Option Value} {base : Heap} (T : Tx K mg) : FnG P w K mg base 1 (a_is_whole K) ["thing", "low", "high"] (spWhole K) := by
  refine T.f_is_whole.ok sc_is_whole (fun vs H Q E h => ?_) (fun cdv A outer s H vs Q E hgu hr h => ⟨_, (pss_one (ps_ret (pe_and (pe_callB (show CallR _ (.builtin "isinstance") (RIsi K) from call_isiU) (by rfl) T.n_isinstance boot_isinstance (pa_cons (pv 0) (pa_cons (pe_bltn (v := .ty "int") (by rfl) T.n_int boot_int rfl) pa_nil))) (pe_and (pe_not (pe_callB (show CallR _ (.builtin "isinstance") (RIsi K) from call_isiU) (by rfl) T.n_isinstance boot_isinstance (pa_cons (pv 0) (pa_cons (pe_bltn (v := .ty "bool") (by rfl) T.n_bool boot_bool rfl) pa_nil)))) (pe_one (pe_chain op_le op_le (pv 1) (pv 0) (pv 2))))))), ?_⟩)
  · obtain ⟨v, lo, hi, R, D, rfl, _⟩ := h
    rfl
  · obtain ⟨v, lo, hi, R, D, rfl, hI, mt, go⟩ := h
    obtain ⟨⟨k, kn⟩, _⟩ := mt.kn hI
    wtm_at "go"
    rcases kn.told with ⟨rfl, rfl⟩ | ⟨b, rfl, rfl⟩ | ⟨i, rfl, rfl⟩ | ⟨z, rfl, rfl⟩ | ⟨a, rfl, hk⟩
    · exact go _ (by assumption)
    · refine iteT ?_
      wtm_at "sx"
      refine iteF ?_
      exact go _ (by assumption)
    · refine iteT ?_
      wtm_at "sx"
      refine iteT ?_
      wtm_at "sx"
      have g : Q (.bl (decide (lo ≤ i) && decide (i ≤ hi))) H := go _ (by assumption)
      refine if_dec (fun h => ?_) (fun h => ?_)
      · wtm_at "sx"
        rw [decide_eq_true h, Bool.true_and] at g
        exact g
      · rw [decide_eq_false h, Bool.false_and] at g
        exact g
    · exact go _ (by assumption)
    · have g := go _ (by assumption)
      rcases hk with rfl | rfl | rfl | rfl <;> exact g
theorem whole_use {K : PySem.W.Frag} {v : V} {lo hi : Int} {R : Cells} {D H : Hp} {Q : VK} {E : XK} (h : HI H R D) (mt : Mt K R D v) (q : ∀ H', HI H' R D → Q (.bl (wholeB v lo hi)) H') : spWhole K [v, .int lo, .int hi] H Q E := ⟨v, lo, hi, R, D, rfl, h, mt, q⟩
theorem whole_is {v : V} {lo hi : Int} (h : wholeB v lo hi = true) : ∃ i, v = .int i ∧ lo ≤ i ∧ i ≤ hi := by
  cases v with
  | int i =>
    obtain ⟨a, b⟩ := He.ba (show (decide (lo ≤ i) && decide (i ≤ hi)) = true from h)
    exact ⟨i, rfl, of_decide_eq_true a, of_decide_eq_true b⟩
  | _ => cases h
theorem whole_ok {i lo hi : Int} (h0 : lo ≤ i) (h1 : i ≤ hi) : wholeB (.int i) lo hi = true := by
  show (decide (lo ≤ i) && decide (i ≤ hi)) = true
  rw [decide_eq_true h0, decide_eq_true h1]
  rfl
def abc : Str := "abcdefghijklmnopqrstuvwxyz"
/-- is it a name -/
def nameB : V → Bool
  | .str z => decide (1 ≤ z.length) && (decide (z.length ≤ 8) && z.cps.toList.all fun c => decide (c ∈ abc.cps.toList))
  | _ => false
def spName (K : PySem.W.Frag) : Sp := fun vs H Q _ => ∃ (v : V) (R : Cells) (D : Hp), vs = [v] ∧ HI H R D ∧ Mt K R D v ∧ ∀ H' D', HI H' R D' → Ex D D' → Q (.bl (nameB v)) H'
set_option maxHeartbeats 400000 in
theorem ok_is_name {P : Program} {w : World} {K : PySem.W.Frag} {mg : Str → Option Value} {base : Heap} (T : Tx K mg) : FnG P w K mg base 1 (a_is_name K) ["thing"] (spName K) := by
  refine T.f_is_name.ok sc_is_name (fun vs H Q E h => ?_) (fun cdv A outer s H vs Q E hgu hr h => ⟨_, (pss_cons (ps_if (PW.pt (pw_or (pt_not (pt_val (pe_callB (show CallR _ (.builtin "isinstance") (RIsi K) from call_isiU) (by rfl) T.n_isinstance boot_isinstance (pa_cons (pv 0) (pa_cons (pe_bltn (v := .ty "str") (by rfl) T.n_str boot_str rfl) pa_nil))))) (pw_or1 (pt_not (pt_chain (op_le) (op_le) pe_int (pe_callB (call_lenU) (by rfl) T.n_len boot_len (pa_cons (pv 0) pa_nil)) (pe_gi rfl T.c_LONGEST)))))) (pss_one (ps_ret pe_bl)) pss_nil)
 (pss_one (ps_ret (pe_callB (call_allU rfl) (by rfl) T.n_all boot_all (pa_cons (pe_lc (own := [("sign", 1)]) rfl sc_is_name.nd (pi_str (pv 0)) (blkOk_by (own := [("sign", 1)]) (N := ["thing", "sign"]) (sc := defScope s_is_name) (by decide +kernel)) (fun _ _ _ _ _ => (pg_name (i := 1) sc_is_name.nd rfl (by first | exact Or.inl rfl | exact Or.inr rfl))) (fun _ _ _ _ _ => pts_nil) (fun _ _ _ _ _ => (pe_cmpR op_inU (pv 1) (pe_gs rfl T.c_LETTERS) (by rfl)))) pa_nil))))), ?_⟩)
  · obtain ⟨v, R, D, rfl, _⟩ := h
    rfl
  · obtain ⟨v, R, D, rfl, hI, mt, go⟩ := h
    obtain ⟨⟨k, kn⟩, hz'⟩ := mt.kn hI
    have hz : ∀ z, v = .str z → z.length ≤ 1000 := fun z e => (hz' z e).len
    wtm_at "go"
    rcases kn.told with ⟨rfl, rfl⟩ | ⟨b, rfl, rfl⟩ | ⟨i, rfl, rfl⟩ | ⟨z, rfl, rfl⟩ | ⟨a, rfl, hk⟩
    · exact go _ _ (by assumption) (Ex.refl _)
    · exact go _ _ (by assumption) (Ex.refl _)
    · exact go _ _ (by assumption) (Ex.refl _)
    · have hz := hz z rfl
      refine iteF ?_
      wtm_at "sx"
      refine if_dec (fun h1 => ?_) (fun h1 => ?_)
      · wtm_at "sx"
        by_cases h2 : ((z.length : Nat) : Int) ≤ 8
        · rw [decide_eq_true h2]
          refine iteF ?_
          wtm_at "sx"
          refine lc_str (fun i acc R' D' => R' = R ∧ Ex D D' ∧ acc = ((z.cps.toList.take i).map fun c => decide (c ∈ abc.cps.toList)).map V.bl) hI ⟨rfl, Ex.refl _, rfl⟩ (fun L i acc c R' D' H' hc hI' p hl => ?_) (fun L acc R' D' H' hI' p hl => ?_)
          · obtain ⟨rfl, x, rfl⟩ := p
            wtm_at "sx"
            refine le_mk hI' ⟨rfl, x, ?_⟩ hl ?_
            · rw [take_more (cps_get hc), List.map_append, List.map_append]
              rfl
            · have := (List.getElem?_eq_some_iff.mp (cps_get hc)).1
              rw [cps_len] at this
              omega
          · obtain ⟨rfl, x, rfl⟩ := p
            wtm_at "sx"
            have g := go _ _ hI'.drop x
            have e1 : 1 ≤ z.length := by omega
            have e2 : z.length ≤ 8 := by omega
            have e3 : nameB (.str z) = ((z.cps.toList.take z.cps.size).map fun c => decide (c ∈ abc.cps.toList)).all id := by
              show (decide (1 ≤ z.length) && (decide (z.length ≤ 8) && z.cps.toList.all fun c => decide (c ∈ abc.cps.toList))) = _
              rw [decide_eq_true e1, decide_eq_true e2, Bool.true_and, Bool.true_and, List.all_map, List.take_of_length_le (by simp)]
              rfl
            rw [e3] at g
            exact g
        · rw [decide_eq_false h2]
          refine iteT ?_
          wtm_at "sx"
          have g := go _ _ hI (Ex.refl _)
          have e3 : nameB (.str z) = false := by
            show (decide (1 ≤ z.length) && (decide (z.length ≤ 8) && z.cps.toList.all fun c => decide (c ∈ abc.cps.toList))) = _
            rw [decide_eq_false (show ¬ z.length ≤ 8 by omega), Bool.false_and, Bool.and_false]
          rw [e3] at g
          exact g
      · wtm_at "sx"
        have g := go _ _ hI (Ex.refl _)
        have e3 : nameB (.str z) = false := by
          show (decide (1 ≤ z.length) && (decide (z.length ≤ 8) && z.cps.toList.all fun c => decide (c ∈ abc.cps.toList))) = _
          rw [decide_eq_false (show ¬ 1 ≤ z.length by omega), Bool.false_and]
        rw [e3] at g
        exact g
    · have g := go _ _ hI (Ex.refl _)
      rcases hk with rfl | rfl | rfl | rfl <;> exact g
theorem name_use {K : PySem.W.Frag} {v : V} {R : Cells} {D H : Hp} {Q : VK} {E : XK} (h : HI H R D) (mt : Mt K R D v) (q : ∀ H' D', HI H' R D' → Ex D D' → Q (.bl (nameB v)) H') : spName K [v] H Q E := ⟨v, R, D, rfl, h, mt, q⟩
def Abc (c : Nat) : Prop := c ∈ abc.cps.toList
/-- a name -/
structure Nm (z : Str) : Prop where
  l0 : 1 ≤ z.length
  l1 : z.length ≤ 8
  a : LP Abc z
theorem Nm.txt {z : Str} (h : Nm z) : TxtOk z := ⟨by have := h.l1; omega, fun c hc => (sg_of rfl : Sg abc) c (h.a c hc)⟩
theorem Nm.is {z : Str} (h : Nm z) : nameB (.str z) = true := by
  show (decide (1 ≤ z.length) && (decide (z.length ≤ 8) && z.cps.toList.all fun c => decide (c ∈ abc.cps.toList))) = true
  rw [decide_eq_true h.l0, decide_eq_true h.l1, Bool.true_and, Bool.true_and, List.all_eq_true]
  exact fun c hc => decide_eq_true (h.a c hc)
theorem nm_of {z : Str} (h : (decide (1 ≤ z.length) && (decide (z.length ≤ 8) && z.cps.toList.all fun c => decide (c ∈ abc.cps.toList))) = true) : Nm z := by
  obtain ⟨a, b⟩ := He.ba h
  obtain ⟨b, c⟩ := He.ba b
  exact ⟨of_decide_eq_true a, of_decide_eq_true b, fun x hx => (of_decide_eq_true (List.all_eq_true.mp c x hx) : x ∈ abc.cps.toList)⟩
theorem nm_is {v : V} (h : nameB v = true) : ∃ z, v = .str z ∧ Nm z := by
  cases v with
  | str z => exact ⟨z, rfl, nm_of h⟩
  | _ => cases h
def spNeedName (K : PySem.W.Frag) : Sp := fun vs H Q E => ∃ (v : V) (R : Cells) (D : Hp), vs = [v] ∧ HI H R D ∧ Mt K R D v ∧ (nameB v = true → ∀ H' D', HI H' R D' → Ex D D' → Q .non H') ∧ (nameB v = false → Outs E (He.ga K "NoName") v R D)
def spNeedNumber (K : PySem.W.Frag) : Sp := fun vs H Q E => ∃ (v : V) (lo hi : Int) (R : Cells) (D : Hp), vs = [v, .int lo, .int hi] ∧ HI H R D ∧ Mt K R D v ∧ (wholeB v lo hi = true → ∀ H' D', HI H' R D' → Ex D D' → Q .non H') ∧ (wholeB v lo hi = false → Outs E (He.ga K "NoNumber") v R D)
set_option maxHeartbeats 400000 in
theorem ok_need_name {P : Program} {w : World} {K : PySem.W.Frag} {mg : Str → Option Value} {base : Heap} (T : Tx K mg) : FnG P w K mg base 4 (a_need_name K) ["thing"] (spNeedName K) := by
  refine T.f_need_name.ok sc_need_name (fun vs H Q E h => ?_) (fun cdv A outer s H vs Q E hgu hr h => ⟨_, (pss_one (ps_if (pt_not (pt_val (ge_call (ok_is_name T) hgu (hr.mono (by decide)) rfl T.g_is_name T.k_is_name T.b_is_name .nil (fun _ => pass_takes (takes_of rfl rfl rfl rfl)) (pa_cons (pv 0) pa_nil)))) (pss_one (ps_raiseX rfl (takes_of rfl rfl rfl rfl) T.x_NoName (ok_NoName_init T) T.b_NoName_init (hr.mono (by decide)) rfl (pa_cons (pv 0) pa_nil))) pss_nil)), ?_⟩)
  · obtain ⟨v, R, D, rfl, _⟩ := h
    rfl
  · obtain ⟨v, R, D, rfl, hI, th, good, bad⟩ := h
    wtm_at "go"
    wtm_at "sc"
    refine name_use hI th (fun H1 D1 hI1 x1 => ?_)
    wtm_at "sc"
    cases hb : nameB v
    · refine iteT ?_
      wtm_at "sc"
      exact bad hb _ _ _ (by assumption) (by wtm_at "ex") (by wtm_at "dat")
    · refine iteF ?_
      wtm_at "sc"
      exact good hb _ _ hI1 x1
set_option maxHeartbeats 400000 in
theorem ok_need_number {P : Program} {w : World} {K : PySem.W.Frag} {mg : Str → Option Value} {base : Heap} (T : Tx K mg) : FnG P w K mg base 4 (a_need_number K) ["thing", "low", "high"] (spNeedNumber K) := by
  refine T.f_need_number.ok sc_need_number (fun vs H Q E h => ?_) (fun cdv A outer s H vs Q E hgu hr h => ⟨_, (pss_one (ps_if (pt_not (pt_val (ge_call (ok_is_whole T) hgu (hr.mono (by decide)) rfl T.g_is_whole T.k_is_whole T.b_is_whole .nil (fun _ => pass_takes (takes_of rfl rfl rfl rfl)) (pa_cons (pv 0) (pa_cons (pv 1) (pa_cons (pv 2) pa_nil)))))) (pss_one (ps_raiseX rfl (takes_of rfl rfl rfl rfl) T.x_NoNumber (ok_NoNumber_init T) T.b_NoNumber_init (hr.mono (by decide)) rfl (pa_cons (pv 0) pa_nil))) pss_nil)), ?_⟩)
  · obtain ⟨v, lo, hi, R, D, rfl, _⟩ := h
    rfl
  · obtain ⟨v, lo, hi, R, D, rfl, hI, th, good, bad⟩ := h
    wtm_at "go"
    wtm_at "sc"
    refine whole_use hI th (fun H1 hI1 => ?_)
    wtm_at "sc"
    cases hb : wholeB v lo hi
    · refine iteT ?_
      wtm_at "sc"
      exact bad hb _ _ _ (by assumption) (by wtm_at "ex") (by wtm_at "dat")
    · refine iteF ?_
      wtm_at "sc"
      exact good hb _ _ hI1 (Ex.refl _)
theorem need_name_use {K : PySem.W.Frag} {v : V} {R : Cells} {D H : Hp} {Q : VK} {E : XK} (h : HI H R D) (th : Mt K R D v) (good : nameB v = true → ∀ H' D', HI H' R D' → Ex D D' → Q .non H') (bad : nameB v = false → Outs E (He.ga K "NoName") v R D) : spNeedName K [v] H Q E := ⟨v, R, D, rfl, h, th, good, bad⟩
theorem need_number_use {K : PySem.W.Frag} {v : V} {lo hi : Int} {R : Cells} {D H : Hp} {Q : VK} {E : XK} (h : HI H R D) (th : Mt K R D v) (good : wholeB v lo hi = true → ∀ H' D', HI H' R D' → Ex D D' → Q .non H') (bad : wholeB v lo hi = false → Outs E (He.ga K "NoNumber") v R D) : spNeedNumber K [v, .int lo, .int hi] H Q E := ⟨v, lo, hi, R, D, rfl, h, th, good, bad⟩
/-- the attributes of a sort -/
def sortF (a b c d e : V) : List (Str × V) := [("called", a), ("belongs", b), ("warmth_needed", c), ("weeks_kept", d), ("cold_borne", e)]
/-- the first thing that is not as it must be -/
def sortBad (K : PySem.W.Frag) (a b c d e : V) : Option (Addr × V) := if nameB a = false then some (He.ga K "NoName", a) else if nameB b = false then some (He.ga K "NoName", b) else if wholeB c 1 10000 = false then some (He.ga K "NoNumber", c) else
  if wholeB d 1 12 = false then some (He.ga K "NoNumber", d) else if wholeB e (-60) 60 = false then some (He.ga K "NoNumber", e) else none
def spSortInit (K : PySem.W.Frag) : Sp := fun vs H Q E => ∃ (x dx : Addr) (a b c d e : V) (R : Cells) (D : Hp), vs = [.ref x, a, b, c, d, e] ∧ HI H ((x, .ins (He.ga K "Sort") dx []) :: R) D ∧ Mt K R D a ∧ Mt K R D b ∧ Mt K R D c ∧ Mt K R D d ∧ Mt K R D e ∧
  (sortBad K a b c d e = none → ∀ H' D', HI H' ((x, .ins (He.ga K "Sort") dx (sortF a b c d e)) :: R) D' → Ex D D' → Q .non H') ∧ (∀ C v, sortBad K a b c d e = some (C, v) → Outs E C v ((x, .ins (He.ga K "Sort") dx []) :: R) D)
set_option maxHeartbeats 1000000 in
theorem ok_Sort_init {P : Program} {w : World} {K : PySem.W.Frag} {mg : Str → Option Value} {base : Heap} (T : Tx K mg) : FnG P w K mg base 5 (a_Sort_init K) ["self", "name", "kin", "needs", "keeps", "bears"] (spSortInit K) := by
  refine T.f_Sort_init.ok sc_Sort_init (fun vs H Q E h => ?_) (fun cdv A outer s H vs Q E hgu hr h => ⟨_, (pss_cons (ps_expr (ge_call (ok_need_name T) hgu (hr.mono (by decide)) rfl T.g_need_name T.k_need_name T.b_need_name .nil (fun _ => pass_takes (takes_of rfl rfl rfl rfl)) (pa_cons (pv 1) pa_nil)))
 (pss_cons (ps_expr (ge_call (ok_need_name T) hgu (hr.mono (by decide)) rfl T.g_need_name T.k_need_name T.b_need_name .nil (fun _ => pass_takes (takes_of rfl rfl rfl rfl)) (pa_cons (pv 2) pa_nil)))
 (pss_cons (ps_expr (ge_call (ok_need_number T) hgu (hr.mono (by decide)) rfl T.g_need_number T.k_need_number T.b_need_number .nil (fun _ => pass_takes (takes_of rfl rfl rfl rfl)) (pa_cons (pv 3) (pa_cons pe_int (pa_cons (pe_gi rfl T.c_MOST_NEEDS) pa_nil)))))
 (pss_cons (ps_expr (ge_call (ok_need_number T) hgu (hr.mono (by decide)) rfl T.g_need_number T.k_need_number T.b_need_number .nil (fun _ => pass_takes (takes_of rfl rfl rfl rfl)) (pa_cons (pv 4) (pa_cons pe_int (pa_cons (pe_gi rfl T.c_MOST_KEEPS) pa_nil)))))
 (pss_cons (ps_expr (ge_call (ok_need_number T) hgu (hr.mono (by decide)) rfl T.g_need_number T.k_need_number T.b_need_number .nil (fun _ => pass_takes (takes_of rfl rfl rfl rfl)) (pa_cons (pv 5) (pa_cons (pe_op op_sub pe_int (pe_gi rfl T.c_COLD)) (pa_cons (pe_gi rfl T.c_COLD) pa_nil)))))
 (pss_cons (ps_fld (pv 0) (pv 1) rfl)
 (pss_cons (ps_fld (pv 0) (pv 2) rfl)
 (pss_cons (ps_fld (pv 0) (pv 3) rfl)
 (pss_cons (ps_fld (pv 0) (pv 4) rfl)
 (pss_one (ps_fld (pv 0) (pv 5) rfl))))))))))), ?_⟩)
  · obtain ⟨x, dx, a, b, c, d, e, R, D, rfl, _⟩ := h
    rfl
  · obtain ⟨x, dx, a, b, c, d, e, R, D, rfl, hI, ta, tb, tc, td, te, good, bad⟩ := h
    have pc := T.pc_Sort
    unfold sortBad at good bad
    wtm_at "go"
    wtm_at "sc"
    refine need_name_use hI ta.cell (fun b1 H1 D1 hI1 x1 => ?_) (fun q => bad _ _ (if_pos q))
    rw [if_neg (by rw [b1]; decide)] at good bad
    wtm_at "sc"
    refine need_name_use hI1 (tb.mono x1).cell (fun b2 H2 D2 hI2 x2 => ?_) (fun q => (bad _ _ (if_pos q)).mono x1)
    rw [if_neg (by rw [b2]; decide)] at good bad
    wtm_at "sc"
    refine need_number_use hI2 (tc.mono (by wtm_at "ex")).cell (fun b3 H3 D3 hI3 x3 => ?_) (fun q => (bad _ _ (if_pos q)).mono (by wtm_at "ex"))
    rw [if_neg (by rw [b3]; decide)] at good bad
    wtm_at "sc"
    refine need_number_use hI3 (td.mono (by wtm_at "ex")).cell (fun b4 H4 D4 hI4 x4 => ?_) (fun q => (bad _ _ (if_pos q)).mono (by wtm_at "ex"))
    rw [if_neg (by rw [b4]; decide)] at good bad
    wtm_at "sc"
    refine need_number_use hI4 (te.mono (by wtm_at "ex")).cell (fun b5 H5 D5 hI5 x5 => ?_) (fun q => (bad _ _ (if_pos q)).mono (by wtm_at "ex"))
    rw [if_neg (by show ¬ wholeB e (-60) 60 = false; have b6 : wholeB e (-60) 60 = true := b5; rw [b6]; decide)] at good bad
    wtm_at "sc"
    exact good rfl _ _ (by assumption) (by wtm_at "ex")
/-- a sort -/
structure Srt where
  nm : Str
  kn : Str
  n : Int
  k : Int
  b : Int
deriving DecidableEq
def Srt.f (s : Srt) : List (Str × V) := sortF (.str s.nm) (.str s.kn) (.int s.n) (.int s.k) (.int s.b)
structure Srt.Ok (s : Srt) : Prop where
  nm : Nm s.nm
  kn : Nm s.kn
  n0 : 1 ≤ s.n
  n1 : s.n ≤ 10000
  k0 : 1 ≤ s.k
  k1 : s.k ≤ 12
  b0 : -60 ≤ s.b
  b1 : s.b ≤ 60
/-- at a: the sort -/
def IsSrt (K : PySem.W.Frag) (D : Hp) (a : Addr) (s : Srt) : Prop := s.Ok ∧ ∃ dx, D a = some (.ins (He.ga K "Sort") dx s.f)
theorem IsSrt.mono {K : PySem.W.Frag} {D D' : Hp} {a : Addr} {s : Srt} (h : IsSrt K D a s) (x : Ex D D') : IsSrt K D' a s := by
  obtain ⟨o, dx, e⟩ := h
  exact ⟨o, dx, x _ _ e⟩
def spGetS (K : PySem.W.Frag) (g : Srt → V) : Sp := fun vs H Q _ => ∃ (a : Addr) (s : Srt) (R : Cells) (D : Hp), vs = [.ref a] ∧ HI H R D ∧ IsSrt K D a s ∧ Q (g s) H
theorem get_use {K : PySem.W.Frag} {g : Srt → V} {a : Addr} {s : Srt} {R : Cells} {D H : Hp} {Q : VK} {E : XK} (h : HI H R D) (i : IsSrt K D a s) (q : Q (g s) H) : spGetS K g [.ref a] H Q E := ⟨a, s, R, D, rfl, h, i, q⟩
theorem ok_Sort_name {P : Program} {w : World} {K : PySem.W.Frag} {mg : Str → Option Value} {base : Heap} (T : Tx K mg) : FnG P w K mg base 1 (a_Sort_name K) ["self"] (spGetS K fun s => .str s.nm) := by
  refine T.f_Sort_name.ok sc_Sort_name (fun vs H Q E h => ?_) (fun cdv A outer s H vs Q E hgu hr h => ⟨_, (pss_one (ps_ret (pe_fld (pv 0) rfl))), ?_⟩)
  · obtain ⟨a, s, R, D, rfl, _⟩ := h
    rfl
  · obtain ⟨a, s, R, D, rfl, hI, ⟨ok, dx, ea⟩, go⟩ := h
    have pc := T.pc_Sort
    unfold Srt.f sortF at ea
    wtm_at "go"
    wtm_at "sc"
    exact go
theorem ok_Sort_kin {P : Program} {w : World} {K : PySem.W.Frag} {mg : Str → Option Value} {base : Heap} (T : Tx K mg) : FnG P w K mg base 1 (a_Sort_kin K) ["self"] (spGetS K fun s => .str s.kn) := by
  refine T.f_Sort_kin.ok sc_Sort_kin (fun vs H Q E h => ?_) (fun cdv A outer s H vs Q E hgu hr h => ⟨_, (pss_one (ps_ret (pe_fld (pv 0) rfl))), ?_⟩)
  · obtain ⟨a, s, R, D, rfl, _⟩ := h
    rfl
  · obtain ⟨a, s, R, D, rfl, hI, ⟨ok, dx, ea⟩, go⟩ := h
    have pc := T.pc_Sort
    unfold Srt.f sortF at ea
    wtm_at "go"
    wtm_at "sc"
    exact go
def Srt.t (s : Srt) : List V := [.str s.nm, .str s.kn, .int s.n, .int s.k, .int s.b]
def Srt.d (s : Srt) : PyData := .tuple [.str s.nm, .str s.kn, .int s.n, .int s.k, .int s.b]
def spToldS (K : PySem.W.Frag) : Sp := fun vs H Q _ => ∃ (a : Addr) (s : Srt) (R : Cells) (D : Hp), vs = [.ref a] ∧ HI H R D ∧ IsSrt K D a s ∧ ∀ p H' D', HI H' R D' → Ex D D' → D' p = some (.tup s.t) → Q (.ref p) H'
theorem told_use {K : PySem.W.Frag} {a : Addr} {s : Srt} {R : Cells} {D H : Hp} {Q : VK} {E : XK} (h : HI H R D) (i : IsSrt K D a s) (q : ∀ p H' D', HI H' R D' → Ex D D' → D' p = some (.tup s.t) → Q (.ref p) H') : spToldS K [.ref a] H Q E := ⟨a, s, R, D, rfl, h, i, q⟩
set_option maxHeartbeats 400000 in
theorem ok_Sort_told {P : Program} {w : World} {K : PySem.W.Frag} {mg : Str → Option Value} {base : Heap} (T : Tx K mg) : FnG P w K mg base 1 (a_Sort_told K) ["self"] (spToldS K) := by
  refine T.f_Sort_told.ok sc_Sort_told (fun vs H Q E h => ?_) (fun cdv A outer s H vs Q E hgu hr h => ⟨_, (pss_one (ps_ret (pe_tup (pa_cons (pe_fld (pv 0) rfl) (pa_cons (pe_fld (pv 0) rfl) (pa_cons (pe_fld (pv 0) rfl) (pa_cons (pe_fld (pv 0) rfl) (pa_cons (pe_fld (pv 0) rfl) pa_nil)))))))), ?_⟩)
  · obtain ⟨a, s, R, D, rfl, _⟩ := h
    rfl
  · obtain ⟨a, s, R, D, rfl, hI, ⟨ok, dx, ea⟩, go⟩ := h
    have pc := T.pc_Sort
    unfold Srt.f sortF at ea
    wtm_at "go"
    wtm_at "sc"
    exact go _ _ _ (by assumption) (by assumption) (by assumption)
theorem Srt.rep {H : Hp} {p : Addr} {s : Srt} (e : H p = some (.tup s.t)) : Rep H (.ref p) s.d := .tup e (.cons (.str _) (.cons (.str _) (.cons (.int _) (.cons (.int _) (.cons (.int _) .nil)))))
theorem Srt.shaped {s : Srt} (o : s.Ok) : SeqAt.shaped s.d = true := by
  unfold SeqAt.shaped Srt.d
  simp [PyData.canLay0, PyData.canLayAll0, PyData.depth, PyData.depthAll, o.nm.txt.ok, o.kn.txt.ok]
theorem Srt.nodict {s : Srt} : s.d.hasDict = false := by simp [Srt.d, PyData.hasDict, PyData.hasDictAll]
theorem Srt.eqv {s u : Srt} : PyData.eqv s.d u.d = decide (s = u) := by
  obtain ⟨a1, a2, a3, a4, a5⟩ := s
  obtain ⟨b1, b2, b3, b4, b5⟩ := u
  by_cases h : (⟨a1, a2, a3, a4, a5⟩ : Srt) = ⟨b1, b2, b3, b4, b5⟩
  · rw [decide_eq_true h]
    cases h
    simp [Srt.d, PyData.eqv, PyData.eqvAll]
  · rw [decide_eq_false h]
    simp [Srt.d, PyData.eqv, PyData.eqvAll]
    intro e1 e2 e3 e4 e5
    exact h (by rw [e1, e2, e3, e4, e5])
theorem IsSrt.ty {K : PySem.W.Frag} {D : Hp} {a : Addr} {s : Srt} (i : InsC K (He.ga K "Sort")) (h : IsSrt K D a s) : Ty K D (.ref a) (.ref (He.ga K "Sort")) := by
  obtain ⟨_, dx, e⟩ := h
  exact .o (.ins e i)
abbrev SsF (pl : Addr) : List (Str × V) := [("kept_sorts", .ref pl)]
/-- at a: Sorts of these sorts; the object and its list may be cells -/
def SsAt (K : PySem.W.Frag) (R : Cells) (D : Hp) (a : Addr) (ss : List (Addr × Srt)) : Prop := ∃ dx pl, At R D a (.ins (He.ga K "Sorts") dx (SsF pl)) ∧ At R D pl (.lst (ss.map fun s => .ref s.1)) ∧ (∀ s ∈ ss, IsSrt K D s.1 s.2) ∧ ss.length ≤ 12
theorem SsAt.mono {K : PySem.W.Frag} {R : Cells} {D D' : Hp} {a : Addr} {ss : List (Addr × Srt)} (h : SsAt K R D a ss) (x : Ex D D') : SsAt K R D' a ss :=
  let ⟨dx, pl, a, b, c, l⟩ := h; ⟨dx, pl, a.mono x, b.mono x, fun s hs => (c s hs).mono x, l⟩
theorem SsAt.sub {K : PySem.W.Frag} {R R' : Cells} {D : Hp} {a : Addr} {ss : List (Addr × Srt)} (h : SsAt K R D a ss) (s : ∀ q ∈ R, q ∈ R') : SsAt K R' D a ss :=
  let ⟨dx, pl, a, b, c, l⟩ := h; ⟨dx, pl, a.sub s, b.sub s, c, l⟩
theorem SsAt.cell {K : PySem.W.Frag} {R : Cells} {D : Hp} {a : Addr} {ss : List (Addr × Srt)} {c : Addr × HO} (h : SsAt K R D a ss) : SsAt K (c :: R) D a ss := h.sub fun _ q => List.mem_cons_of_mem _ q
def spSsNames (K : PySem.W.Frag) : Sp := fun vs H Q _ => ∃ (a : Addr) (ss : List (Addr × Srt)) (R : Cells) (D : Hp), vs = [.ref a] ∧ HI H R D ∧ SsAt K R D a ss ∧
  ∀ q H', HI H' ((q, .lst (ss.map fun s => .str s.2.nm)) :: R) D → Q (.ref q) H'
theorem ssnames_use {K : PySem.W.Frag} {a : Addr} {ss : List (Addr × Srt)} {R : Cells} {D H : Hp} {Q : VK} {E : XK} (hI : HI H R D) (h : SsAt K R D a ss) (go : ∀ q H', HI H' ((q, .lst (ss.map fun s => .str s.2.nm)) :: R) D → Q (.ref q) H') : spSsNames K [.ref a] H Q E := ⟨a, ss, R, D, rfl, hI, h, go⟩
theorem ok_Sorts_names {P : Program} {w : World} {K : PySem.W.Frag} {mg : Str → Option Value} {base : Heap} (T : Tx K mg) : FnG P w K mg base 2 (a_Sorts_names K) ["self"] (spSsNames K) := by
  refine T.f_Sorts_names.ok sc_Sorts_names (fun vs H Q E h => ?_) (fun cdv A outer s H vs Q E hgu hr h => ⟨_, (pss_one (ps_ret (pe_lc (own := [("one", 1)]) rfl sc_Sorts_names.nd (pi_seq (pe_fld (pv 0) rfl)) (blkOk_by (own := [("one", 1)]) (N := ["self", "one"]) (sc := defScope s_Sorts_names) (by decide +kernel)) (fun _ _ _ _ _ => (pg_name (i := 1) sc_Sorts_names.nd rfl (by first | exact Or.inl rfl | exact Or.inr rfl))) (fun _ _ _ _ _ => pts_nil) (fun _ _ _ _ _ => (ge_meth0 (pv 1) T.cl_Sort T.m_Sort_name (ok_Sort_name T) hgu (hr.mono (by decide)) T.b_Sort_name .nil (fun _ => pass_none)))))), ?_⟩)
  · obtain ⟨a, ss, R, D, rfl, _⟩ := h
    rfl
  · obtain ⟨a, ss, R, D, rfl, hI, ⟨dx, pl, ha, hp, hss, hl⟩, go⟩ := h
    have pc := T.pc_Sorts
    have ea := ha.get hI
    wtm_at "go"
    wtm_at "sn"
    refine lc_seq hp.sq (fun i acc R' D' => R' = R ∧ D' = D ∧ acc = (ss.take i).map fun s => V.str s.2.nm) hI ⟨rfl, rfl, rfl⟩ (fun i acc R' D' q => ?_) (fun L i acc v R' D' H' hv hI' q hl2 => ?_) (fun L acc R' D' H' hI' q hl2 => ?_)
    · obtain ⟨rfl, rfl, rfl⟩ := q
      exact ⟨fun _ q => q, Ex.refl _⟩
    · obtain ⟨hR, hD, rfl⟩ := q
      rw [hR, hD] at hI'
      rw [List.getElem?_map] at hv
      obtain ⟨s, hs, rfl⟩ := Option.map_eq_some_iff.mp hv
      have hi : i < ss.length := (List.getElem?_eq_some_iff.mp hs).1
      have is := hss s (List.mem_of_getElem? hs)
      obtain ⟨_, dxs, es⟩ := id is
      wtm_at "sn"
      refine get_use hI' is ?_
      refine le_mk hI' ⟨rfl, rfl, ?_⟩ hl2 (by omega)
      rw [take_more hs, List.map_append]
      rfl
    · obtain ⟨hR, hD, rfl⟩ := q
      rw [hR, hD] at hI'
      rw [List.length_map, List.take_length] at hI'
      exact go _ _ hI'
theorem inV_strs {z : Str} : ∀ {ys : List Str}, inV (.str z) (ys.map V.str) = decide (z ∈ ys)
  | [] => by simp [inV]
  | y :: ys => by
    have ih := inV_strs (z := z) (ys := ys)
    rw [Bool.eq_iff_iff] at ih ⊢
    simp [inV, L2.eqV] at ih ⊢
    rw [eq_comm (a := z) (b := y)] <;> simp_all
theorem flat_strs {ys : List Str} : (ys.map V.str).all flatV = true := by
  rw [List.all_eq_true]
  intro v hv
  obtain ⟨y, _, rfl⟩ := List.mem_map.mp hv
  rfl
/-- the good ways -/
def spAreSortsG (K : PySem.W.Frag) : Sp := fun vs H Q _ => ∃ (p : Addr) (ss : List (Addr × Srt)) (R : Cells) (D : Hp), vs = [.ref p] ∧ HI H R D ∧ Sq3 R D p (ss.map fun s => .ref s.1) ∧ (∀ s ∈ ss, IsSrt K D s.1 s.2) ∧ ss.length ≤ 12 ∧ ∀ H' D', HI H' R D' → Ex D D' → Q (.bl true) H'
theorem ok_are_sorts {P : Program} {w : World} {K : PySem.W.Frag} {mg : Str → Option Value} {base : Heap} (T : Tx K mg) : FnG P w K mg base 1 (a_are_sorts K) ["thing"] (spAreSortsG K) := by
  refine T.f_are_sorts.ok sc_are_sorts (fun vs H Q E h => ?_) (fun cdv A outer s H vs Q E hgu hr h => ⟨_, (pss_cons (ps_if (PW.pt (pw_or (pt_not (pt_val (pe_callB (show CallR _ (.builtin "isinstance") (RIsiT K) from call_isiTU) (by rfl) T.n_isinstance boot_isinstance (pa_cons (pv 0) (pa_cons (pe_tup (pa_cons (pe_bltn (v := .ty "list") (by rfl) T.n_list boot_list rfl) (pa_cons (pe_bltn (v := .ty "tuple") (by rfl) T.n_tuple boot_tuple rfl) pa_nil))) pa_nil))))) (pw_or1 (pt_cmpR op_gt (pe_callB (call_lenU) (by rfl) T.n_len boot_len (pa_cons (pv 0) pa_nil)) (pe_gi rfl T.c_MOST_SORTS) (nomark _))))) (pss_one (ps_ret pe_bl)) pss_nil)
 (pss_one (ps_ret (pe_callB (call_allU rfl) (by rfl) T.n_all boot_all (pa_cons (pe_lc (own := [("one", 1)]) rfl sc_are_sorts.nd (pi_seq (pv 0)) (blkOk_by (own := [("one", 1)]) (N := ["thing", "one"]) (sc := defScope s_are_sorts) (by decide +kernel)) (fun _ _ _ _ _ => (pg_name (i := 1) sc_are_sorts.nd rfl (by first | exact Or.inl rfl | exact Or.inr rfl))) (fun _ _ _ _ _ => pts_nil) (fun _ _ _ _ _ => (pe_callB (show CallR _ (.builtin "isinstance") (RIsiC K) from call_isiC) (by rfl) T.n_isinstance boot_isinstance (pa_cons (pv 1) (pa_cons (pe_glob (v := .ref (He.ga K "Sort")) rfl T.g_Sort rfl) pa_nil))))) pa_nil))))), ?_⟩)
  · obtain ⟨p, ss, R, D, rfl, _⟩ := h
    rfl
  · obtain ⟨p, ss, R, D, rfl, hI, sq, hss, hl, go⟩ := h
    wtm_at "go"
    wtm_at "sn"
    refine Sq3.isi (by assumption) (sq.mono (by wtm_at "ex")) (by wtm_at "hp") ?_
    wtm_at "sn"
    refine Sq3.len (by assumption) (sq.mono (by wtm_at "ex")) ?_
    rw [List.length_map]
    wtm_at "sn"
    rename_i pT H1 D1 hI1 x1 eT
    refine lc_seq (sq.mono x1) (fun i acc R' D' => R' = R ∧ D' = D1 ∧ acc = (List.replicate i true).map V.bl) hI1 ⟨rfl, rfl, rfl⟩ (fun i acc R' D' q => ?_) (fun L i acc v R' D' H' hv hI' q hl2 => ?_) (fun L acc R' D' H' hI' q hl2 => ?_)
    · obtain ⟨rfl, rfl, rfl⟩ := q
      exact ⟨fun _ q => q, Ex.refl _⟩
    · obtain ⟨rfl, rfl, rfl⟩ := q
      rw [List.getElem?_map] at hv
      obtain ⟨s, hs, rfl⟩ := Option.map_eq_some_iff.mp hv
      have hi : i < ss.length := (List.getElem?_eq_some_iff.mp hs).1
      have is := (hss s (List.mem_of_getElem? hs)).mono x1
      wtm_at "sn"
      refine RIsiC.ty ((is.ty T.in_Sort).mono hI'.sub) T.ki_Sort_Sort ?_
      exact le_mk hI' ⟨rfl, rfl, by rw [List.replicate_succ', List.map_append]; rfl⟩ hl2 (by omega)
    · obtain ⟨rfl, rfl, rfl⟩ := q
      refine RAll.mk (hI'.get (List.mem_cons_self ..)) ?_
      have ea : (List.replicate (List.map (fun s : Addr × Srt => V.ref s.1) ss).length true).all id = true := by simp
      rw [ea]
      exact go _ _ hI'.drop x1
def spSsInit (K : PySem.W.Frag) : Sp := fun vs H Q _ => ∃ (x dx p : Addr) (ss : List (Addr × Srt)) (R : Cells) (D : Hp), vs = [.ref x, .ref p] ∧ HI H ((x, .ins (He.ga K "Sorts") dx []) :: R) D ∧ Sq3 R D p (ss.map fun s => .ref s.1) ∧ (∀ s ∈ ss, IsSrt K D s.1 s.2) ∧ ss.length ≤ 12 ∧ (ss.map fun s => s.2.nm).Nodup ∧
  ∀ pl H' D', HI H' ((pl, .lst (ss.map fun s => .ref s.1)) :: (x, .ins (He.ga K "Sorts") dx (SsF pl)) :: R) D' → Ex D D' → Q .non H'
set_option maxHeartbeats 1000000 in
theorem ok_Sorts_init {P : Program} {w : World} {K : PySem.W.Frag} {mg : Str → Option Value} {base : Heap} (T : Tx K mg) : FnG P w K mg base 4 (a_Sorts_init K) ["self", "some"] (spSsInit K) := by
  refine T.f_Sorts_init.ok sc_Sorts_init (fun vs H Q E h => ?_) (fun cdv A outer s H vs Q E hgu hr h => ⟨_, (pss_cons (ps_if (pt_not (pt_val (ge_call (ok_are_sorts T) hgu (hr.mono (by decide)) rfl T.g_are_sorts T.k_are_sorts T.b_are_sorts .nil (fun _ => pass_takes (takes_of rfl rfl rfl rfl)) (pa_cons (pv 1) pa_nil)))) (pss_one (ps_raiseX rfl (takes_of rfl rfl rfl rfl) T.x_NoList (ok_NoList_init T) T.b_NoList_init (hr.mono (by decide)) rfl (pa_cons (pv 1) pa_nil))) pss_nil)
 (pss_cons (ps_fld (pv 0) (pe_lstM pa_nil) rfl)
 (pss_one (ps_for (passes_of rfl) rfl (pi_seq (pv 1)) (pg_name (i := 2) sc_Sorts_init.nd rfl (Or.inl rfl)) (pss_cons (ps_if (pt_cmpR op_inU (ge_meth0 (pv 2) T.cl_Sort T.m_Sort_name (ok_Sort_name T) hgu (hr.mono (by decide)) T.b_Sort_name .nil (fun _ => pass_takes (takes_of rfl rfl rfl rfl))) (ge_meth0 (pv 0) T.cl_Sorts T.m_Sorts_names (ok_Sorts_names T) hgu (hr.mono (by decide)) T.b_Sorts_names .nil (fun _ => pass_takes (takes_of rfl rfl rfl rfl))) (by rfl)) (pss_one (ps_raiseX rfl (takes_of rfl rfl rfl rfl) T.x_Doubled (ok_Doubled_init T) T.b_Doubled_init (hr.mono (by decide)) rfl (pa_cons (ge_meth0 (pv 2) T.cl_Sort T.m_Sort_name (ok_Sort_name T) hgu (hr.mono (by decide)) T.b_Sort_name .nil (fun _ => pass_takes (takes_of rfl rfl rfl rfl))) pa_nil))) pss_nil)
 (pss_one (ps_expr (pe_bm PySem.F.plainAttrs_list PySem.F.slot_list_append PySem.F.type_list_append mt_append (pe_fld (pv 0) rfl) (pa_cons (pv 2) pa_nil))))))))), ?_⟩)
  · obtain ⟨x, dx, p, ss, R, D, rfl, _⟩ := h
    rfl
  · obtain ⟨x, dx, p, ss, R, D, rfl, hI, sq, hss, hl, nd, go⟩ := h
    have pc := T.pc_Sorts
    have sq' : Sq3 ((x, .ins (He.ga K "Sorts") dx []) :: R) D p (ss.map fun s => .ref s.1) := sq.sub fun _ q => List.mem_cons_of_mem _ q
    wtm_at "go"
    wtm_at "sn"
    refine ⟨p, ss, _, D, rfl, hI, sq', hss, hl, fun H1 D1 hI1 x1 => ?_⟩
    wtm_at "sn"
    rename_i pl H2 hI2 H3 hI3
    have hI4 : HI H3 ((pl, .lst []) :: (x, .ins (He.ga K "Sorts") dx (SsF pl)) :: R) D1 := hI3.swap
    refine for_seqR (Rs := R) (sq.mono x1) (fun q h => List.mem_cons_of_mem _ (List.mem_cons_of_mem _ h)) (fun i σ R' D' => ∃ c2 : Option V, σ = [some (.ref x), some (.ref p), c2] ∧ R' = (pl, .lst ((ss.take i).map fun s => .ref s.1)) :: (x, .ins (He.ga K "Sorts") dx (SsF pl)) :: R ∧ Ex D1 D') hI4 ⟨_, rfl, rfl, Ex.refl _⟩ (fun i σ R' D' q => ?_) (fun i v σ R' D' H' hv hI' q => ?_) (fun σ R' D' H' hI' q => ?_)
    · obtain ⟨_, rfl, rfl, xq⟩ := q
      exact ⟨fun q h => List.mem_cons_of_mem _ (List.mem_cons_of_mem _ h), xq⟩
    · obtain ⟨c2, rfl, rfl, xq⟩ := q
      rw [List.getElem?_map] at hv
      obtain ⟨s, hs, rfl⟩ := Option.map_eq_some_iff.mp hv
      have hi : i < ss.length := (List.getElem?_eq_some_iff.mp hs).1
      have x1q := x1.trans xq
      have is := (hss s (List.mem_of_getElem? hs)).mono x1q
      obtain ⟨_, dxs, es⟩ := id is
      have sa : SsAt K ((pl, .lst ((ss.take i).map fun s => .ref s.1)) :: (x, .ins (He.ga K "Sorts") dx (SsF pl)) :: R) D' x (ss.take i) := ⟨dx, pl, .inl (by simp), .inl (by simp), fun s hs => (hss s (List.mem_of_mem_take hs)).mono x1q, by rw [List.length_take]; omega⟩
      wtm_at "sn"
      refine get_use hI' is ?_
      wtm_at "sn"
      refine ssnames_use hI' sa (fun q H5 hI5 => ?_)
      have e5 : H5 q = some (.lst (((ss.take i).map fun s => s.2.nm).map V.str)) := by
        rw [List.map_map]
        exact hI5.get (List.mem_cons_self ..)
      wtm_at "sn"
      refine rin_lst e5 rfl flat_strs ?_
      have ni : s.2.nm ∉ (ss.take i).map fun s => s.2.nm := fun hm => by
        have h2 := nd
        rw [← List.take_append_drop i ss, List.map_append] at h2
        have hd : s ∈ ss.drop i := List.mem_of_getElem? (i := 0) (by rw [List.getElem?_drop]; exact hs)
        exact (List.nodup_append.mp h2).2.2 _ hm _ (List.mem_map.mpr ⟨s, hd, rfl⟩) rfl
      rw [inV_strs, decide_eq_false ni]
      have hI6 := hI5.drop
      wtm_at "sn"
      refine app_now hI6 (by rw [List.length_map, List.length_take]; omega) (fun H7 hI7 => ?_)
      refine ⟨_, _, hI7, _, rfl, ?_, xq⟩
      rw [take_more hs, List.map_append]
      rfl
    · obtain ⟨c2, rfl, rfl, xq⟩ := q
      rw [List.length_map, List.take_length] at hI'
      wtm_at "sn"
      exact go pl _ _ hI' (x1.trans xq)
theorem make_ss {K : PySem.W.Frag} {x dx p : Addr} {ss : List (Addr × Srt)} {R : Cells} {D H : Hp} {P : Hp → Prop} {E : XK} (hI : HI H ((x, .ins (He.ga K "Sorts") dx []) :: (dx, .own x) :: R) D) (sq : Sq3 R D p (ss.map fun s => .ref s.1)) (hss : ∀ s ∈ ss, IsSrt K D s.1 s.2) (hl : ss.length ≤ 12) (nd : (ss.map fun s => s.2.nm).Nodup)
    (go : ∀ H' D', HI H' R D' → Ex D D' → SsAt K [] D' x ss → P H') : spSsInit K [.ref x, .ref p] H (fun v H2 => v = .non ∧ P H2) E := by
  refine ⟨x, dx, p, ss, _, D, rfl, hI, sq.sub fun _ q => List.mem_cons_of_mem _ q, hss, hl, nd, fun pl H' D' h x1 => ⟨rfl, ?_⟩⟩
  obtain ⟨D2, h2, x2, e2⟩ := h.fr1
  obtain ⟨D3, h3, x3, e3⟩ := h2.freezeI
  exact go _ _ h3 (x1.trans (x2.trans x3)) ⟨dx, pl, .inr e3, .inr (x3 _ _ e2), fun s hs => (hss s hs).mono (x1.trans (x2.trans x3)), hl⟩
def IsSs (K : PySem.W.Frag) (D : Hp) (a : Addr) (ss : List (Addr × Srt)) : Prop := ∃ dx pl, D a = some (.ins (He.ga K "Sorts") dx (SsF pl)) ∧ D pl = some (.lst (ss.map fun s => .ref s.1)) ∧ (∀ s ∈ ss, IsSrt K D s.1 s.2) ∧ ss.length ≤ 12
theorem IsSs.mono {K : PySem.W.Frag} {D D' : Hp} {a : Addr} {ss : List (Addr × Srt)} (h : IsSs K D a ss) (x : Ex D D') : IsSs K D' a ss :=
  let ⟨dx, pl, a, b, c, l⟩ := h; ⟨dx, pl, x _ _ a, x _ _ b, fun s hs => (c s hs).mono x, l⟩
theorem SsAt.is {K : PySem.W.Frag} {D : Hp} {a : Addr} {ss : List (Addr × Srt)} (h : SsAt K [] D a ss) : IsSs K D a ss := by
  obtain ⟨dx, pl, h1, h2, c, l⟩ := h
  exact ⟨dx, pl, h1.elim (fun m => nomatch m) id, h2.elim (fun m => nomatch m) id, c, l⟩
theorem IsSs.at {K : PySem.W.Frag} {R : Cells} {D : Hp} {a : Addr} {ss : List (Addr × Srt)} (h : IsSs K D a ss) : SsAt K R D a ss :=
  let ⟨dx, pl, a, b, c, l⟩ := h; ⟨dx, pl, .inr a, .inr b, c, l⟩
theorem IsSs.tyS {K : PySem.W.Frag} {D : Hp} {a : Addr} {ss : List (Addr × Srt)} (i : InsC K (He.ga K "Sorts")) (h : IsSs K D a ss) : Ty K D (.ref a) (.ref (He.ga K "Sorts")) := by
  obtain ⟨dx, pl, e, _⟩ := h
  exact .o (.ins e i)
def spSsLen (K : PySem.W.Frag) : Sp := fun vs H Q _ => ∃ (a : Addr) (ss : List (Addr × Srt)) (R : Cells) (D : Hp), vs = [.ref a] ∧ HI H R D ∧ IsSs K D a ss ∧ Q (.int ss.length) H
theorem ok_Sorts_len {P : Program} {w : World} {K : PySem.W.Frag} {mg : Str → Option Value} {base : Heap} (T : Tx K mg) : FnG P w K mg base 1 (a_Sorts_len K) ["self"] (spSsLen K) := by
  refine T.f_Sorts_len.ok sc_Sorts_len (fun vs H Q E h => ?_) (fun cdv A outer s H vs Q E hgu hr h => ⟨_, (pss_one (ps_ret (pe_callB (call_lenU) (by rfl) T.n_len boot_len (pa_cons (pe_fld (pv 0) rfl) pa_nil)))), ?_⟩)
  · obtain ⟨a, ss, R, D, rfl, _⟩ := h
    rfl
  · obtain ⟨a, ss, R, D, rfl, hI, ⟨dx, pl, ea, ep, hss, hl⟩, go⟩ := h
    have pc := T.pc_Sorts
    wtm_at "go"
    wtm_at "sn"
    rw [List.length_map]
    exact go
def spSsAll (K : PySem.W.Frag) : Sp := fun vs H Q _ => ∃ (a : Addr) (ss : List (Addr × Srt)) (R : Cells) (D : Hp), vs = [.ref a] ∧ HI H R D ∧ IsSs K D a ss ∧ ∀ q H', HI H' ((q, .lst (ss.map fun s => .ref s.1)) :: R) D → Q (.ref q) H'
theorem ok_Sorts_all_sorts {P : Program} {w : World} {K : PySem.W.Frag} {mg : Str → Option Value} {base : Heap} (T : Tx K mg) : FnG P w K mg base 1 (a_Sorts_all_sorts K) ["self"] (spSsAll K) := by
  refine T.f_Sorts_all_sorts.ok sc_Sorts_all_sorts (fun vs H Q E h => ?_) (fun cdv A outer s H vs Q E hgu hr h => ⟨_, (pss_one (ps_ret (pe_callTy call_listUM (by rfl) T.n_list boot_list (pa_cons (pe_fld (pv 0) rfl) pa_nil)))), ?_⟩)
  · obtain ⟨a, ss, R, D, rfl, _⟩ := h
    rfl
  · obtain ⟨a, ss, R, D, rfl, hI, ⟨dx, pl, ea, ep, hss, hl⟩, go⟩ := h
    have pc := T.pc_Sorts
    wtm_at "go"
    wtm_at "sn"
    rename_i q H1 hI1
    exact go _ _ hI1
/-- all five, of each -/
def spSsTold (K : PySem.W.Frag) : Sp := fun vs H Q _ => ∃ (a : Addr) (ss : List (Addr × Srt)) (R : Cells) (D : Hp), vs = [.ref a] ∧ HI H R D ∧ IsSs K D a ss ∧ ∀ q H' D', HI H' R D' → Ex D D' → Rep D' (.ref q) (.tuple (ss.map fun s => s.2.d)) → (∃ xs, D' q = some (.tup xs)) → Q (.ref q) H'
theorem ok_Sorts_told {P : Program} {w : World} {K : PySem.W.Frag} {mg : Str → Option Value} {base : Heap} (T : Tx K mg) : FnG P w K mg base 2 (a_Sorts_told K) ["self"] (spSsTold K) := by
  refine T.f_Sorts_told.ok sc_Sorts_told (fun vs H Q E h => ?_) (fun cdv A outer s H vs Q E hgu hr h => ⟨_, (pss_one (ps_ret (pe_callTy call_tupU (by rfl) T.n_tuple boot_tuple (pa_cons (pe_lc (own := [("one", 1)]) rfl sc_Sorts_told.nd (pi_seq (pe_fld (pv 0) rfl)) (blkOk_by (own := [("one", 1)]) (N := ["self", "one"]) (sc := defScope s_Sorts_told) (by decide +kernel)) (fun _ _ _ _ _ => (pg_name (i := 1) sc_Sorts_told.nd rfl (by first | exact Or.inl rfl | exact Or.inr rfl))) (fun _ _ _ _ _ => pts_nil) (fun _ _ _ _ _ => (ge_meth0 (pv 1) T.cl_Sort T.m_Sort_told (ok_Sort_told T) hgu (hr.mono (by decide)) T.b_Sort_told .nil (fun _ => pass_none)))) pa_nil)))), ?_⟩)
  · obtain ⟨a, ss, R, D, rfl, _⟩ := h
    rfl
  · obtain ⟨a, ss, R, D, rfl, hI, ⟨dx, pl, ea, ep, hss, hl⟩, go⟩ := h
    have pc := T.pc_Sorts
    wtm_at "go"
    wtm_at "sn"
    refine lc_lst (xs := ss.map fun s => V.ref s.1) (fun i acc R' D' => R' = R ∧ Ex D D' ∧ acc.length = i ∧ RepL D' acc ((ss.take i).map fun s => s.2.d)) hI ⟨rfl, Ex.refl _, rfl, .nil⟩ (fun i acc R' D' q => ?_) (fun L i acc v R' D' H' hv hI' q hl2 => ?_) (fun L acc R' D' H' hI' q hl2 => ?_)
    · exact q.2.1 _ _ ep
    · obtain ⟨rfl, xq, al, hrep⟩ := q
      rw [List.getElem?_map] at hv
      obtain ⟨s, hs, rfl⟩ := Option.map_eq_some_iff.mp hv
      have hi : i < ss.length := (List.getElem?_eq_some_iff.mp hs).1
      have is := (hss s (List.mem_of_getElem? hs)).mono xq
      obtain ⟨_, dxs, es⟩ := id is
      wtm_at "sn"
      refine told_use hI' is (fun p2 H2 D2 hI2 x2 e2 => ?_)
      refine le_mk hI2 ⟨rfl, xq.trans x2, by rw [List.length_append, al]; rfl, ?_⟩ hl2 (by omega)
      rw [take_more hs, List.map_append]
      exact (hrep.mono x2).snoc (Srt.rep e2)
    · obtain ⟨rfl, xq, al, hrep⟩ := q
      rw [List.length_map, List.take_length] at hrep
      obtain ⟨DF, hF, xF, eF⟩ := hI'.fr1
      refine RTupO.l (hF.dat eF) ?_
      refine al_D hF (fun q2 H2 D2 hI2 x2 e2 => ?_)
      exact go _ _ _ hI2 (xq.trans (xF.trans x2)) (.tup e2 (hrep.mono (xF.trans x2))) ⟨_, e2⟩
/-- the kins in the order of first sight -/
def kinsOf (ys : List Str) : List Str := ys.foldl (fun acc y => if y ∈ acc then acc else acc ++ [y]) []
theorem kinsOf_snoc {ys : List Str} {y : Str} : kinsOf (ys ++ [y]) = if y ∈ kinsOf ys then kinsOf ys else kinsOf ys ++ [y] := by
  unfold kinsOf
  rw [List.foldl_append]
  rfl
theorem kins_foldl_len : ∀ {ys acc : List Str}, (ys.foldl (fun acc y => if y ∈ acc then acc else acc ++ [y]) acc).length ≤ acc.length + ys.length
  | [], acc => Nat.le_refl _
  | y :: ys, acc => by
    rw [List.foldl_cons, List.length_cons]
    refine Nat.le_trans kins_foldl_len ?_
    split
    · omega
    · rw [List.length_append, List.length_singleton]
      omega
theorem kinsOf_len {ys : List Str} : (kinsOf ys).length ≤ ys.length := Nat.le_trans kins_foldl_len (by simp)
/-- the dict of what has been seen -/
def seenK (zs : List Str) : List (Key × V) := zs.map fun z => (Sum.inr z, V.bl true)
theorem seen_val {z : Str} : ∀ {zs : List Str}, valV (seenK zs) (.inr z) = if z ∈ zs then some (.bl true) else none
  | [] => by simp [seenK, valV_nil]
  | y :: zs => by
    by_cases e : y = z
    · unfold seenK
      rw [List.map_cons, valV_pos (by rw [e]), if_pos (by rw [e]; exact List.mem_cons_self ..)]
    · have ih := seen_val (z := z) (zs := zs)
      unfold seenK at ih ⊢
      rw [List.map_cons, valV_neg (fun h => e (Sum.inr.inj h)), ih]
      by_cases hm : z ∈ zs
      · rw [if_pos hm, if_pos (List.mem_cons_of_mem _ hm)]
      · rw [if_neg hm, if_neg (fun h => by rcases List.mem_cons.mp h with h | h; exact e h.symm; exact hm h)]
def spSsKins (K : PySem.W.Frag) : Sp := fun vs H Q _ => ∃ (a : Addr) (ss : List (Addr × Srt)) (R : Cells) (D : Hp), vs = [.ref a] ∧ HI H R D ∧ IsSs K D a ss ∧ ∀ q H', HI H' ((q, .lst ((kinsOf (ss.map fun s => s.2.kn)).map V.str)) :: R) D → Q (.ref q) H'
set_option maxHeartbeats 1000000 in
theorem ok_Sorts_kins {P : Program} {w : World} {K : PySem.W.Frag} {mg : Str → Option Value} {base : Heap} (T : Tx K mg) : FnG P w K mg base 2 (a_Sorts_kins K) ["self"] (spSsKins K) := by
  refine T.f_Sorts_kins.ok sc_Sorts_kins (fun vs H Q E h => ?_) (fun cdv A outer s H vs Q E hgu hr h => ⟨_, (pss_cons (ps_set (i := 1) sc_Sorts_kins.nd rfl (Or.inl rfl) (pe_dnewM))
 (pss_cons (ps_for (passes_of rfl) rfl (pi_seq (pe_fld (pv 0) rfl)) (pg_name (i := 2) sc_Sorts_kins.nd rfl (Or.inl rfl)) (pss_one (ps_expr (pe_dsetd (pv 1) (ge_meth0 (pv 2) T.cl_Sort T.m_Sort_kin (ok_Sort_kin T) hgu (hr.mono (by decide)) T.b_Sort_kin .nil (fun _ => pass_takes (takes_of rfl rfl rfl rfl))) pe_bl ⟨rfl, rfl, rfl, rfl⟩))))
 (pss_one (ps_ret (pe_callTy (call_list_dK rfl) (by rfl) T.n_list boot_list (pa_cons (pv 1) pa_nil)))))), ?_⟩)
  · obtain ⟨a, ss, R, D, rfl, _⟩ := h
    rfl
  · obtain ⟨a, ss, R, D, rfl, hI, ⟨dx, pl, ea, ep, hss, hl⟩, go⟩ := h
    have pc := T.pc_Sorts
    wtm_at "go"
    wtm_at "sn"
    rename_i fd H1 hI1
    refine for_lst (xs := ss.map fun s => V.ref s.1) (fun i σ R' D' => ∃ c2 : Option V, σ = [some (.ref a), some (.ref fd), c2] ∧ R' = (fd, .dK (seenK (kinsOf ((ss.take i).map fun s => s.2.kn)))) :: R ∧ D' = D) hI1 ⟨_, rfl, rfl, rfl⟩ (fun i σ R' D' q => ?_) (fun i v σ R' D' H' hv hI' q => ?_) (fun σ R' D' H' hI' q => ?_)
    · obtain ⟨_, _, _, rfl⟩ := q
      exact ep
    · obtain ⟨c2, rfl, rfl, hD⟩ := q
      rw [hD] at hI'
      rw [List.getElem?_map] at hv
      obtain ⟨s, hs, rfl⟩ := Option.map_eq_some_iff.mp hv
      have hi : i < ss.length := (List.getElem?_eq_some_iff.mp hs).1
      have is := hss s (List.mem_of_getElem? hs)
      obtain ⟨_, dxs, es⟩ := id is
      have kl : (seenK (kinsOf ((ss.take i).map fun s => s.2.kn))).length ≤ 12 := by
        have := kinsOf_len (ys := (ss.take i).map fun s => s.2.kn)
        rw [List.length_map, List.length_take] at this
        unfold seenK
        rw [List.length_map]
        omega
      have step : kinsOf ((ss.take (i + 1)).map fun s => s.2.kn) = if s.2.kn ∈ kinsOf ((ss.take i).map fun s => s.2.kn) then kinsOf ((ss.take i).map fun s => s.2.kn) else kinsOf ((ss.take i).map fun s => s.2.kn) ++ [s.2.kn] := by
        rw [take_more hs, List.map_append]
        exact kinsOf_snoc
      wtm_at "sn"
      refine se_dsetd ?_
      wtm_at "sn"
      refine sd_a (hI'.get (List.mem_cons_self ..)) ?_
      wtm_at "sn"
      refine get_use hI' is ?_
      wtm_at "sn"
      refine sd_now (k := .inr s.2.kn) hI' rfl (by omega) (fun v hv => ?_) (fun hv H2 hI2 => ?_)
      · rw [seen_val] at hv
        by_cases hm : s.2.kn ∈ kinsOf ((ss.take i).map fun s => s.2.kn)
        · refine ⟨_, _, hI', _, rfl, ?_, rfl⟩
          rw [step, if_pos hm]
        · rw [if_neg hm] at hv
          cases hv
      · rw [putK_new _ hv] at hI2
        rw [seen_val] at hv
        by_cases hm : s.2.kn ∈ kinsOf ((ss.take i).map fun s => s.2.kn)
        · rw [if_pos hm] at hv
          cases hv
        · refine ⟨_, _, hI2, _, rfl, ?_, rfl⟩
          rw [step, if_neg hm]
          unfold seenK
          rw [List.map_append]
          rfl
    · obtain ⟨c2, rfl, rfl, hD⟩ := q
      rw [hD] at hI'
      rw [List.length_map, List.take_length] at hI'
      wtm_at "sn"
      refine list_dK_mk (hI'.get (List.mem_cons_self ..)) ?_
      refine al_M hI' (fun q H2 hI2 => ?_)
      have e : (seenK (kinsOf (ss.map fun s => s.2.kn))).map (fun kv => kV kv.1) = (kinsOf (ss.map fun s => s.2.kn)).map V.str := by
        unfold seenK
        rw [List.map_map]
        rfl
      rw [e] at hI2
      exact go _ _ hI2.swap.drop
theorem srts_dict : ∀ {us : List Srt}, PyData.hasDictAll (us.map Srt.d) = false
  | [] => by simp [PyData.hasDictAll]
  | u :: us => by
    have := srts_dict (us := us)
    simp [PyData.hasDictAll, Srt.nodict, this]
theorem srts_lay : ∀ {us : List Srt}, (∀ u ∈ us, u.Ok) → PyData.canLayAll0 (us.map Srt.d) = true
  | [], _ => by simp [PyData.canLayAll0]
  | u :: us, h => by
    have a := srts_lay (us := us) fun x hx => h x (List.mem_cons_of_mem _ hx)
    have o := h u (List.mem_cons_self ..)
    simp [PyData.canLayAll0, a, Srt.d, PyData.canLay0, o.nm.txt.ok, o.kn.txt.ok]
theorem srts_depth : ∀ {us : List Srt}, PyData.depthAll (us.map Srt.d) ≤ 1
  | [] => by simp [PyData.depthAll]
  | u :: us => by
    have := srts_depth (us := us)
    simp [PyData.depthAll, Srt.d, PyData.depth, this]
theorem srts_shaped {us : List Srt} (h : ∀ u ∈ us, u.Ok) : SeqAt.shaped (.tuple (us.map Srt.d)) = true := by
  have d := srts_depth (us := us)
  simp [SeqAt.shaped, PyData.canLay0, srts_lay h, PyData.depth]
  omega
theorem srts_shapedL {us : List Srt} (h : ∀ u ∈ us, u.Ok) : SeqAt.shaped (.list (us.map Srt.d)) = true := by
  have d := srts_depth (us := us)
  simp [SeqAt.shaped, PyData.canLay0, srts_lay h, PyData.depth]
  omega
theorem srts_eqv : ∀ {us ws : List Srt}, PyData.eqvAll (us.map Srt.d) (ws.map Srt.d) = decide (us = ws)
  | [], [] => by simp [PyData.eqvAll]
  | [], _ :: _ => by simp [PyData.eqvAll]
  | _ :: _, [] => by simp [PyData.eqvAll]
  | u :: us, w :: ws => by
    have ih := srts_eqv (us := us) (ws := ws)
    rw [List.map_cons, List.map_cons, Bool.eq_iff_iff]
    simp [PyData.eqvAll, Srt.eqv, ih]
def spEqSs (K : PySem.W.Frag) : Sp := fun vs H Q _ => ∃ (a : Addr) (ss : List (Addr × Srt)) (y : V) (R : Cells) (D : Hp), vs = [.ref a, y] ∧ HI H R D ∧ IsSs K D a ss ∧
  ((∃ t, Ty K D y t ∧ PySem.W.kitOne K t (.ref (He.ga K "Sorts")) = some false ∧ Q (.bl false) H) ∨ ∃ b us, y = .ref b ∧ IsSs K D b us ∧ ∀ H' D', HI H' R D' → Ex D D' → Q (.bl (decide (ss.map (·.2) = us.map (·.2)))) H')
theorem sstold_use {K : PySem.W.Frag} {a : Addr} {ss : List (Addr × Srt)} {R : Cells} {D H : Hp} {Q : VK} {E : XK} (hI : HI H R D) (h : IsSs K D a ss) (go : ∀ q H' D', HI H' R D' → Ex D D' → Rep D' (.ref q) (.tuple (ss.map fun s => s.2.d)) → (∃ xs, D' q = some (.tup xs)) → Q (.ref q) H') : spSsTold K [.ref a] H Q E := ⟨a, ss, R, D, rfl, hI, h, go⟩
set_option maxHeartbeats 1000000 in
theorem ok_Sorts_eq {P : Program} {w : World} {K : PySem.W.Frag} {mg : Str → Option Value} {base : Heap} (T : Tx K mg) : FnG P w K mg base 3 (a_Sorts_eq K) ["self", "other"] (spEqSs K) := by
  refine T.f_Sorts_eq.ok sc_Sorts_eq (fun vs H Q E h => ?_) (fun cdv A outer s H vs Q E hgu hr h => ⟨_, (pss_one (ps_ret (pe_and (pe_callB (show CallR _ (.builtin "isinstance") (RIsiC K) from call_isiC) (by rfl) T.n_isinstance boot_isinstance (pa_cons (pv 1) (pa_cons (pe_glob (v := .ref (He.ga K "Sorts")) rfl T.g_Sorts rfl) pa_nil))) (pe_one (pe_cmpR (op_eqU hr.units) (ge_meth0 (pv 0) T.cl_Sorts T.m_Sorts_told (ok_Sorts_told T) hgu (hr.mono (by decide)) T.b_Sorts_told .nil (fun _ => pass_takes (takes_of rfl rfl rfl rfl))) (ge_meth0 (pv 1) T.cl_Sorts T.m_Sorts_told (ok_Sorts_told T) hgu (hr.mono (by decide)) T.b_Sorts_told .nil (fun _ => pass_takes (takes_of rfl rfl rfl rfl))) (nomark _)))))), ?_⟩)
  · obtain ⟨a, ss, y, R, D, rfl, _⟩ := h
    rfl
  · obtain ⟨a, ss, y, R, D, rfl, hI, ia, h⟩ := h
    obtain ⟨dx, pl, ea, ep, hss, hl⟩ := id ia
    wtm_at "go"
    wtm_at "sn"
    rcases h with ⟨t, ty, kt, q⟩ | ⟨b, us, rfl, ib, go⟩
    · refine RIsiC.ty (ty.mono hI.sub) kt ?_
      wtm_at "sn"
      exact q
    · refine RIsiC.ty ((ib.tyS T.in_Sorts).mono hI.sub) T.ki_Sorts_Sorts ?_
      obtain ⟨dx2, pl2, eb, ep2, hss2, hl2⟩ := id ib
      wtm_at "sn"
      refine sstold_use hI ia (fun p1 H1 D1 hI1 x1 r1 _ => ?_)
      have eb1 := x1 _ _ eb
      wtm_at "sn"
      refine sstold_use hI1 (ib.mono x1) (fun p2 H2 D2 hI2 x2 r2 _ => ?_)
      have o1 : ∀ u ∈ ss.map (·.2), u.Ok := fun u hu => by
        obtain ⟨s, hs, rfl⟩ := List.mem_map.mp hu
        exact (hss s hs).1
      have o2 : ∀ u ∈ us.map (·.2), u.Ok := fun u hu => by
        obtain ⟨s, hs, rfl⟩ := List.mem_map.mp hu
        exact (hss2 s hs).1
      have e1 : (ss.map fun s => s.2.d) = (ss.map (·.2)).map Srt.d := by rw [List.map_map]; rfl
      have e2 : (us.map fun s => s.2.d) = (us.map (·.2)).map Srt.d := by rw [List.map_map]; rfl
      rw [e1] at r1
      rw [e2] at r2
      refine req_dat (hI2.rep (r1.mono x2)) (hI2.rep r2) (by simp only [PyData.hasDict]; exact srts_dict) (by simp only [PyData.hasDict]; exact srts_dict) (srts_shaped o1) (srts_shaped o2) ?_
      have e : PyData.eqv (.tuple ((ss.map (·.2)).map Srt.d)) (.tuple ((us.map (·.2)).map Srt.d)) = decide (ss.map (·.2) = us.map (·.2)) := by
        rw [← srts_eqv]
        simp [PyData.eqv]
      rw [e]
      exact go _ _ hI2 (x1.trans x2)
inductive KinAt (K : PySem.W.Frag) (D : Hp) : V → Option Str → Prop
  | str (z : Str) : KinAt K D (.str z) (some z)
  | int (i : Int) : KinAt K D (.int i) none
  | non : KinAt K D .non none
  | lst {p : Addr} : D p = some (.lst [.str "a"]) → KinAt K D (.ref p) none
  | dict {p : Addr} : D p = some (.dK []) → KinAt K D (.ref p) none
  | ss {a : Addr} {ss : List (Addr × Srt)} : IsSs K D a ss → KinAt K D (.ref a) none
theorem KinAt.mono {K : PySem.W.Frag} {D D' : Hp} {v : V} {o : Option Str} (h : KinAt K D v o) (x : Ex D D') : KinAt K D' v o := by
  cases h with
  | str z => exact .str z
  | int i => exact .int i
  | non => exact .non
  | lst e => exact .lst (x _ _ e)
  | dict e => exact .dict (x _ _ e)
  | ss i => exact .ss (i.mono x)
theorem kin_eq {K : PySem.W.Frag} {mg : Str → Option Value} {R : Cells} {D H : Hp} {v : V} {o : Option Str} {z : Str} {Q : VK} (T : Tx K mg) (hz : PyData.strOk z = true) (hI : HI H R D) (k : KinAt K D v o) (q : Q (.bl (decide (o = some z))) H) : rEqKd (.str z) v H Q ∨ REqK K (He.ga K "Sorts") (spEqSs K) (.str z) v H Q := by
  cases k with
  | str y =>
    refine .inr (.l (.b (req_str ?_)))
    have e : decide (z = y) = decide ((some y : Option Str) = some z) := by
      rw [Bool.eq_iff_iff, decide_eq_true_iff, decide_eq_true_iff]
      exact ⟨fun h => by rw [h], fun h => (Option.some.inj h).symm⟩
    rw [e]
    exact q
  | int i =>
    refine .inr (.l (.b (.scal rfl ?_)))
    exact q
  | non =>
    refine .inr (.l (.b (.scal rfl ?_)))
    exact q
  | lst e =>
    refine .inr (.l (.b (.dat (d := .str z) (e := .list [.str "a"]) (.str z) (hI.rep (.lst e (.cons (.str _) .nil))) (by simp [PyData.hasDict]) (by simp [PyData.hasDict, PyData.hasDictAll]) (by simp [SeqAt.shaped, PyData.canLay0, hz, PyData.depth]) (by decide +kernel) ?_)))
    have e2 : PyData.eqv (.str z) (.list [.str "a"]) = false := by simp [PyData.eqv]
    rw [e2]
    exact q
  | dict e => exact .inl ⟨z, _, _, rfl, rfl, hI.dat e, q⟩
  | @ss a ss i =>
    obtain ⟨dx, pl, ea, _⟩ := id i
    have ty : Ty K D (.str z) (.type "str") := .b (Kn.str z) (by simp [seven]) rfl
    refine .inr (.r (hI.dat ea) (.str z) ⟨a, ss, .str z, R, D, rfl, hI, i, .inl ⟨_, ty, T.kb_Sorts (by simp [seven]), ⟨_, rfl, q⟩⟩⟩)
def spSsOfKin (K : PySem.W.Frag) : Sp := fun vs H Q _ => ∃ (a : Addr) (ss : List (Addr × Srt)) (v : V) (o : Option Str) (R : Cells) (D : Hp), vs = [.ref a, v] ∧ HI H R D ∧ IsSs K D a ss ∧ KinAt K D v o ∧
  ∀ q H', HI H' ((q, .lst ((ss.filter fun s => decide (o = some s.2.kn)).map fun s => .ref s.1)) :: R) D → Q (.ref q) H'
set_option maxHeartbeats 1000000 in
theorem ok_Sorts_of_kin {P : Program} {w : World} {K : PySem.W.Frag} {mg : Str → Option Value} {base : Heap} (T : Tx K mg) : FnG P w K mg base 9 (a_Sorts_of_kin K) ["self", "kin"] (spSsOfKin K) := by
  refine T.f_Sorts_of_kin.ok sc_Sorts_of_kin (fun vs H Q E h => ?_) (fun cdv A outer s H vs Q E hgu hr h => ⟨_, (pss_one (ps_ret (pe_lc (own := [("one", 2)]) rfl sc_Sorts_of_kin.nd (pi_seq (pe_fld (pv 0) rfl)) (blkOk_by (own := [("one", 2)]) (N := ["self", "kin", "one"]) (sc := defScope s_Sorts_of_kin) (by decide +kernel)) (fun _ _ _ _ _ => (pg_name (i := 2) sc_Sorts_of_kin.nd rfl (by first | exact Or.inl rfl | exact Or.inr rfl))) (fun _ _ _ _ _ => (pts_one (pt_cmpR (OpR.or (op_eqKd hr.units) (op_eqKC (K := K) T.eq_Sorts (ok_Sorts_eq T) T.b_Sorts_eq hgu (hr.mono (by decide)) T.sb_Sorts rfl)) (ge_meth0 (pv 2) T.cl_Sort T.m_Sort_kin (ok_Sort_kin T) hgu (hr.mono (by decide)) T.b_Sort_kin .nil (fun _ => pass_none)) (pv 1) (nomark _)))) (fun _ _ _ _ _ => (pv 2))))), ?_⟩)
  · obtain ⟨a, ss, v, o, R, D, rfl, _⟩ := h
    rfl
  · obtain ⟨a, ss, v, o, R, D, rfl, hI, ia, kv, go⟩ := h
    obtain ⟨dx, pl, ea, ep, hss, hl⟩ := id ia
    have pc := T.pc_Sorts
    wtm_at "go"
    wtm_at "sn"
    refine lc_lst (xs := ss.map fun s => V.ref s.1) (fun i acc R' D' => R' = R ∧ D' = D ∧ acc = ((ss.take i).filter fun s => decide (o = some s.2.kn)).map fun s => V.ref s.1) hI ⟨rfl, rfl, rfl⟩ (fun i acc R' D' q => ?_) (fun L i acc v' R' D' H' hv hI' q hl2 => ?_) (fun L acc R' D' H' hI' q hl2 => ?_)
    · obtain ⟨_, rfl, _⟩ := q
      exact ep
    · obtain ⟨hR, hD, rfl⟩ := q
      rw [hR, hD] at hI'
      rw [List.getElem?_map] at hv
      obtain ⟨s, hs, rfl⟩ := Option.map_eq_some_iff.mp hv
      have hi : i < ss.length := (List.getElem?_eq_some_iff.mp hs).1
      have is := hss s (List.mem_of_getElem? hs)
      obtain ⟨ok, dxs, es⟩ := id is
      wtm_at "sn"
      refine get_use hI' is ?_
      wtm_at "sn"
      refine kin_eq T ok.kn.txt.ok hI' kv ?_
      refine st_bl ?_
      have step : ((ss.take (i + 1)).filter fun s => decide (o = some s.2.kn)) = ((ss.take i).filter fun s => decide (o = some s.2.kn)) ++ (if decide (o = some s.2.kn) = true then [s] else []) := by
        rw [take_more hs, List.filter_append]
        congr 1
        exact fil_one
      by_cases hk : o = some s.2.kn
      · rw [decide_eq_true hk] at step ⊢
        refine iteT ?_
        wtm_at "sn"
        refine le_mk hI' ⟨rfl, rfl, ?_⟩ hl2 (by omega)
        rw [step, List.map_append]
        rfl
      · rw [decide_eq_false hk] at step ⊢
        refine iteF ?_
        refine lx_mk hI' ⟨rfl, rfl, ?_⟩ hl2
        rw [step]
        show _ = (_ ++ []).map _
        rw [List.append_nil]
    · obtain ⟨hR, hD, rfl⟩ := q
      rw [hR, hD] at hI'
      rw [List.length_map, List.take_length] at hI'
      exact go _ _ hI'
def spSsPlace (K : PySem.W.Frag) : Sp := fun vs H Q _ => ∃ (a : Addr) (ss : List (Addr × Srt)) (z : Str) (i : Nat) (s : Addr × Srt) (R : Cells) (D : Hp), vs = [.ref a, .str z] ∧ HI H R D ∧ IsSs K D a ss ∧ ss[i]? = some s ∧ s.2.nm = z ∧ (∀ j u, j < i → ss[j]? = some u → u.2.nm ≠ z) ∧ ∀ H' D', HI H' R D' → Ex D D' → Q (.int i) H'
set_option maxHeartbeats 1000000 in
theorem ok_Sorts_place_of {P : Program} {w : World} {K : PySem.W.Frag} {mg : Str → Option Value} {base : Heap} (T : Tx K mg) : FnG P w K mg base 2 (a_Sorts_place_of K) ["self", "name"] (spSsPlace K) := by
  refine T.f_Sorts_place_of.ok sc_Sorts_place_of (fun vs H Q E h => ?_) (fun cdv A outer s H vs Q E hgu hr h => ⟨_, (pss_cons (ps_for (passes_of rfl) rfl (pi_enum (by rfl) T.n_enumerate (pa_cons (pe_fld (pv 0) rfl) pa_nil)) (pg_tup (by rfl) (pgs_cons (pg_name (i := 2) sc_Sorts_place_of.nd rfl (Or.inl rfl)) (pgs_cons (pg_name (i := 3) sc_Sorts_place_of.nd rfl (Or.inl rfl)) pgs_nil))) (pss_one (ps_if (pt_cmpR (op_eqU hr.units) (ge_meth0 (pv 3) T.cl_Sort T.m_Sort_name (ok_Sort_name T) hgu (hr.mono (by decide)) T.b_Sort_name .nil (fun _ => pass_takes (takes_of rfl rfl rfl rfl))) (pv 1) (nomark _)) (pss_one (ps_ret (pv 2))) pss_nil)))
 (pss_one (ps_ret pe_non))), ?_⟩)
  · obtain ⟨a, ss, z, i, s, R, D, rfl, _⟩ := h
    rfl
  · obtain ⟨a, ss, z, i, s, R, D, rfl, hI, ia, hs, hz, hf, go⟩ := h
    obtain ⟨dx, pl, ea, ep, hss, hl⟩ := id ia
    have pc := T.pc_Sorts
    have hil := (List.getElem?_eq_some_iff.mp hs).1
    wtm_at "go"
    wtm_at "sn"
    refine for_enum (xs := ss.map fun s => V.ref s.1) (fun j σ R' D' => ∃ c2 c3 : Option V, σ = [some (.ref a), some (.str z), c2, c3] ∧ R' = R ∧ Ex D D' ∧ j ≤ i) hI ⟨_, _, rfl, rfl, Ex.refl _, Nat.zero_le _⟩ (fun j σ R' D' q => ?_) (fun j v TT σ R' D' D'' H' hv hI' x34 eT q => ?_) (fun σ R' D' H' hI' q => ?_)
    · obtain ⟨_, _, _, _, x, _⟩ := q
      exact x _ _ ep
    · obtain ⟨c2, c3, rfl, hR, x, hji⟩ := q
      rw [hR] at hI'
      rw [List.getElem?_map] at hv
      obtain ⟨u, hu, rfl⟩ := Option.map_eq_some_iff.mp hv
      have x' := x.trans x34
      have iu := (hss u (List.mem_of_getElem? hu)).mono x'
      obtain ⟨_, dxs, es⟩ := id iu
      wtm_at "sn"
      refine get_use hI' iu ?_
      wtm_at "sn"
      by_cases hj : j = i
      · subst hj
        have e : u = s := Option.some.inj (hu.symm.trans hs)
        rw [e, decide_eq_true hz]
        wtm_at "sn"
        exact go _ _ hI' x'
      · rw [decide_eq_false (hf j u (by omega) hu)]
        wtm_at "sn"
        exact ⟨_, _, hI', _, _, rfl, rfl, x', by omega⟩
    · obtain ⟨c2, c3, rfl, hR, x, hji⟩ := q
      rw [List.length_map] at hji
      omega
def spSsBy (K : PySem.W.Frag) : Sp := fun vs H Q _ => ∃ (a : Addr) (ss : List (Addr × Srt)) (i : Nat) (s : Addr × Srt) (R : Cells) (D : Hp), vs = [.ref a, .str s.2.nm] ∧ HI H R D ∧ IsSs K D a ss ∧ ss[i]? = some s ∧ (∀ j u, j < i → ss[j]? = some u → u.2.nm ≠ s.2.nm) ∧ ∀ H' D', HI H' R D' → Ex D D' → Q (.ref s.1) H'
theorem ok_Sorts_by_name {P : Program} {w : World} {K : PySem.W.Frag} {mg : Str → Option Value} {base : Heap} (T : Tx K mg) : FnG P w K mg base 4 (a_Sorts_by_name K) ["self", "name"] (spSsBy K) := by
  refine T.f_Sorts_by_name.ok sc_Sorts_by_name (fun vs H Q E h => ?_) (fun cdv A outer s H vs Q E hgu hr h => ⟨_, (pss_cons (ps_set (i := 2) sc_Sorts_by_name.nd rfl (Or.inl rfl) (ge_meth (pv 0) T.cl_Sorts T.m_Sorts_place_of (ok_Sorts_place_of T) hgu (hr.mono (by decide)) T.b_Sorts_place_of .nil (fun _ => pass_takes (takes_of rfl rfl rfl rfl)) (pa_cons (pv 1) pa_nil)))
 (pss_cons (ps_if (pt_cmpR op_isU (pv 2) pe_non (nomark _)) (pss_one ps_never) pss_nil)
 (pss_one (ps_ret (pe_ix ix_U (pe_fld (pv 0) rfl) (pv 2) (fun _ _ => rfl)))))), ?_⟩)
  · obtain ⟨a, ss, i, s, R, D, rfl, _⟩ := h
    rfl
  · obtain ⟨a, ss, i, s, R, D, rfl, hI, ia, hs, hf, go⟩ := h
    obtain ⟨dx, pl, ea, ep, hss, hl⟩ := id ia
    have pc := T.pc_Sorts
    have hil := (List.getElem?_eq_some_iff.mp hs).1
    wtm_at "go"
    wtm_at "sn"
    refine ⟨a, ss, s.2.nm, i, s, R, D, rfl, hI, ia, hs, rfl, hf, fun H1 D1 hI1 x1 => ?_⟩
    have ea1 := x1 _ _ ea
    wtm_at "sn"
    refine RIx.l (hI1.dat (x1 _ _ ep)) (atI_mapI (by omega) (by rw [Int.toNat_natCast]; exact hs)) ?_
    exact go _ _ hI1 x1
abbrev words18 : List Str := ["of", "needs", "keeps", "bears", "week", "heads", "bed", "row", "last", "kin", "from", "to", "sow", "cut", "none", "a", "ab", "all"]
theorem words18_nm : ∀ y ∈ words18, Nm y := all_c (nm_of (by decide +kernel)) (all_c (nm_of (by decide +kernel)) (all_c (nm_of (by decide +kernel)) (all_c (nm_of (by decide +kernel)) (all_c (nm_of (by decide +kernel)) (all_c (nm_of (by decide +kernel)) (all_c (nm_of (by decide +kernel)) (all_c (nm_of (by decide +kernel)) (all_c (nm_of (by decide +kernel)) (all_c (nm_of (by decide +kernel)) (all_c (nm_of (by decide +kernel)) (all_c (nm_of (by decide +kernel)) (all_c (nm_of (by decide +kernel)) (all_c (nm_of (by decide +kernel)) (all_c (nm_of (by decide +kernel)) (all_c (nm_of (by decide +kernel)) (all_c (nm_of (by decide +kernel)) (all_c (nm_of (by decide +kernel)) all_n)))))))))))))))))
abbrev ix18 (fi st : Int) (i : Nat) : Nat := ((fi + st * (0 + (i : Int))) % 18).toNat
abbrev ix26 (fi st : Int) (i : Nat) : Nat := ((fi + st * (0 + (i : Int))) % 26).toNat
abbrev abc26 : List Nat := (Str.ofString "abcdefghijklmnopqrstuvwxyz").cps.toList
theorem ix18_lt {fi st : Int} {i : Nat} : ix18 fi st i < 18 := by
  have := Int.emod_lt_of_pos (fi + st * (0 + (i : Int))) (show (0 : Int) < 18 by decide)
  have := Int.emod_nonneg (fi + st * (0 + (i : Int))) (show (18 : Int) ≠ 0 by decide)
  show ((fi + st * (0 + (i : Int))) % 18).toNat < 18
  omega
theorem ix26_lt {fi st : Int} {i : Nat} : ix26 fi st i < 26 := by
  have := Int.emod_lt_of_pos (fi + st * (0 + (i : Int))) (show (0 : Int) < 26 by decide)
  have := Int.emod_nonneg (fi + st * (0 + (i : Int))) (show (26 : Int) ≠ 0 by decide)
  show ((fi + st * (0 + (i : Int))) % 26).toNat < 26
  omega
theorem ix18_inj {fi st : Int} {i j : Nat} (hs : st = 1 ∨ st = 5 ∨ st = 7 ∨ st = 11 ∨ st = 13 ∨ st = 17) (hi : i < 12) (hj : j < 12) (h : ix18 fi st i = ix18 fi st j) : i = j := by
  have h2 : ((fi + st * (0 + (i : Int))) % 18).toNat = ((fi + st * (0 + (j : Int))) % 18).toNat := h
  rcases hs with rfl | rfl | rfl | rfl | rfl | rfl <;> omega
theorem ix26_inj {fi st : Int} {i j : Nat} (hs : st = 1 ∨ st = 3 ∨ st = 5 ∨ st = 7 ∨ st = 9 ∨ st = 11 ∨ st = 15) (hi : i < 12) (hj : j < 12) (h : ix26 fi st i = ix26 fi st j) : i = j := by
  have h2 : ((fi + st * (0 + (i : Int))) % 26).toNat = ((fi + st * (0 + (j : Int))) % 26).toNat := h
  rcases hs with rfl | rfl | rfl | rfl | rfl | rfl | rfl <;> omega
def spNames : Sp := fun vs H Q _ => ∃ (b : Addr) (m : Int) (R : Cells) (D : Hp) (x y z : Int) (n : Nat), vs = [.ref b, .int m] ∧ HI H ((b, bx x y z) :: R) D ∧ BoxOk n x y z ∧ n + 100 < 1000000 ∧ 0 ≤ m ∧ m ≤ 100 ∧
  ∀ (p : Addr) (ys : List Str) x' y' z' n' H' D', HI H' ((b, bx x' y' z') :: R) D' → Ex D D' → BoxOk n' x' y' z' → n' ≤ n + 20 → D' p = some (.lst (ys.map V.str)) → (ys.length : Int) = m → (∀ y ∈ ys, Nm y) → (m ≤ 12 → ys.Nodup) → Q (.ref p) H'
set_option maxHeartbeats 2000000 in
theorem ok_l_names {P : Program} {w : World} {K : PySem.W.Frag} {mg : Str → Option Value} {base : Heap} (T : Tx K mg) : FnG P w K mg base 2 (a_l_names K) ["box", "many"] spNames := by
  refine T.f_l_names.ok sc_l_names (fun vs H Q E h => ?_) (fun cdv A outer s H vs Q E hgu hr h => ⟨_, (pss_cons (ps_set (i := 2) sc_l_names.nd rfl (Or.inr rfl) pe_str)
 (pss_cons (ps_asg (pe_tup (pa_cons (ge_call (ok_l_take T) hgu (hr.mono (by decide)) rfl T.g_l_take T.k_l_take T.b_l_take .nil (fun _ => pass_takes (takes_of rfl rfl rfl rfl)) (pa_cons (pv 0) (pa_cons pe_int pa_nil))) (pa_cons (ge_call (ok_l_take T) hgu (hr.mono (by decide)) rfl T.g_l_take T.k_l_take T.b_l_take .nil (fun _ => pass_takes (takes_of rfl rfl rfl rfl)) (pa_cons (pv 0) (pa_cons pe_int pa_nil))) pa_nil))) (pg_tup (by rfl) (pgs_cons (pg_name (i := 3) sc_l_names.nd rfl (Or.inl rfl)) (pgs_cons (pg_name (i := 4) sc_l_names.nd rfl (Or.inr rfl)) pgs_nil))))
 (pss_cons (ps_asg (pe_tup (pa_cons (pe_op op_addU pe_int (ge_call (ok_l_take T) hgu (hr.mono (by decide)) rfl T.g_l_take T.k_l_take T.b_l_take .nil (fun _ => pass_takes (takes_of rfl rfl rfl rfl)) (pa_cons (pv 0) (pa_cons pe_int pa_nil)))) (pa_cons (pe_ix ix_U (pe_lst (pa_cons pe_int (pa_cons pe_int (pa_cons pe_int (pa_cons pe_int (pa_cons pe_int (pa_cons pe_int (pa_cons pe_int pa_nil)))))))) (ge_call (ok_l_take T) hgu (hr.mono (by decide)) rfl T.g_l_take T.k_l_take T.b_l_take .nil (fun _ => pass_takes (takes_of rfl rfl rfl rfl)) (pa_cons (pv 0) (pa_cons pe_int pa_nil))) (fun _ _ => rfl)) pa_nil))) (pg_tup (by rfl) (pgs_cons (pg_name (i := 5) sc_l_names.nd rfl (Or.inl rfl)) (pgs_cons (pg_name (i := 6) sc_l_names.nd rfl (Or.inr rfl)) pgs_nil))))
 (pss_cons (ps_set (i := 7) sc_l_names.nd rfl (Or.inr rfl) (ge_call (ok_l_take T) hgu (hr.mono (by decide)) rfl T.g_l_take T.k_l_take T.b_l_take .nil (fun _ => pass_takes (takes_of rfl rfl rfl rfl)) (pa_cons (pv 0) (pa_cons (pv 5) pa_nil))))
 (pss_cons (ps_set (i := 8) sc_l_names.nd rfl (Or.inr rfl) (pe_m1 PySem.F.slot_str_join PySem.F.type_str_join mt_joinU pe_str (pe_lc (own := [("k", 12)]) rfl sc_l_names.nd (pi_range1 rfl T.n_range (pa_cons pe_int pa_nil)) (blkOk_by (own := [("k", 12)]) (N := ["box", "many", "letters", "way", "first", "size", "step", "at", "stem", "words", "ends", "signs", "k", "sign"]) (sc := defScope s_l_names) (by decide +kernel)) (fun _ _ _ _ _ => (pg_name (i := 12) sc_l_names.nd rfl (by first | exact Or.inl rfl | exact Or.inr rfl))) (fun _ _ _ _ _ => pts_nil) (fun _ _ _ _ _ => (pe_ix ix_U (pv 2) (ge_call (ok_l_take T) hgu (hr.mono (by decide)) rfl T.g_l_take T.k_l_take T.b_l_take .nil (fun _ => pass_none) (pa_cons (pv 0) (pa_cons pe_int pa_nil))) (fun _ _ => rfl))))))
 (pss_cons (ps_if (pt_cmpR (op_eqU hr.units) (pv 3) pe_int (nomark _)) (pss_cons (ps_set (i := 9) sc_l_names.nd rfl (Or.inr rfl) (pe_m1 PySem.F.slot_str_split PySem.F.type_str_split mt_splitU pe_str pe_str))
 (pss_cons (ps_set (i := 6) sc_l_names.nd rfl (Or.inr rfl) (pe_ix ix_U (pe_lst (pa_cons pe_int (pa_cons pe_int (pa_cons pe_int (pa_cons pe_int (pa_cons pe_int (pa_cons pe_int pa_nil))))))) (pe_op op_mod (pv 6) pe_int) (fun _ _ => rfl)))
 (pss_one (ps_ret (pe_lc (own := [("k", 12)]) rfl sc_l_names.nd (pi_range1 rfl T.n_range (pa_cons (pv 1) pa_nil)) (blkOk_by (own := [("k", 12)]) (N := ["box", "many", "letters", "way", "first", "size", "step", "at", "stem", "words", "ends", "signs", "k", "sign"]) (sc := defScope s_l_names) (by decide +kernel)) (fun _ _ _ _ _ => (pg_name (i := 12) sc_l_names.nd rfl (by first | exact Or.inl rfl | exact Or.inr rfl))) (fun _ _ _ _ _ => pts_nil) (fun _ _ _ _ _ => (pe_ix ix_U (pv 9) (pe_op op_mod (pe_op op_addU (pv 4) (pe_op op_mulU (pv 6) (pv 12))) pe_int) (fun _ _ => rfl)))))))) pss_nil)
 (pss_cons (ps_if (PW.pt (pw_and (pt_cmpR (op_eqU hr.units) (pv 3) pe_int (nomark _)) (pw_and1 (pt_cmpR op_lt (pv 1) pe_int (nomark _))))) (pss_cons (ps_set (i := 8) sc_l_names.nd rfl (Or.inr rfl) (pe_op op_addU (pv 8) (pe_ix ix_U (pv 2) (pv 4) (fun _ _ => rfl))))
 (pss_one (ps_ret (pe_lc (own := [("k", 12)]) rfl sc_l_names.nd (pi_range1 rfl T.n_range (pa_cons (pv 1) pa_nil)) (blkOk_by (own := [("k", 12)]) (N := ["box", "many", "letters", "way", "first", "size", "step", "at", "stem", "words", "ends", "signs", "k", "sign"]) (sc := defScope s_l_names) (by decide +kernel)) (fun _ _ _ _ _ => (pg_name (i := 12) sc_l_names.nd rfl (by first | exact Or.inl rfl | exact Or.inr rfl))) (fun _ _ _ _ _ => pts_nil) (fun _ _ _ _ _ => (pe_slice sl_U (pv 8) po_none (po_some (pe_op op_addU pe_int (pe_op op_mod (pe_op op_addU (pv 7) (pv 12)) pe_int))))))))) pss_nil)
 (pss_cons (ps_set (i := 10) sc_l_names.nd rfl (Or.inr rfl) (pe_slice sl_U (pv 8) (po_some (pv 7)) (po_some (pe_op op_sub (pv 5) pe_int))))
 (pss_cons (ps_setLc (i := 11) (own := [("k", 12)]) rfl sc_l_names.nd rfl rfl (sw_true rfl rfl rfl (by decide +kernel)) (pi_range1 rfl T.n_range (pa_cons (pv 1) pa_nil)) (blkOk_by (own := [("k", 12)]) (N := ["box", "many", "letters", "way", "first", "size", "step", "at", "stem", "words", "ends", "signs", "k", "sign"]) (sc := defScope s_l_names) (by decide +kernel)) (fun _ _ _ _ _ => (pg_name (i := 12) sc_l_names.nd rfl (by first | exact Or.inl rfl | exact Or.inr rfl))) (fun _ _ _ _ _ => pts_nil) (fun _ _ _ _ _ => (pe_ix ix_U (pv 2) (pe_op op_mod (pe_op op_addU (pv 4) (pe_op op_mulU (pv 6) (pv 12))) pe_int) (fun _ _ => rfl))))
 (pss_one (ps_ret (pe_lc (own := [("sign", 13)]) rfl sc_l_names.nd (pi_list (pv 11)) (blkOk_by (own := [("sign", 13)]) (N := ["box", "many", "letters", "way", "first", "size", "step", "at", "stem", "words", "ends", "signs", "k", "sign"]) (sc := defScope s_l_names) (by decide +kernel)) (fun _ _ _ _ _ => (pg_name (i := 13) sc_l_names.nd rfl (by first | exact Or.inl rfl | exact Or.inr rfl))) (fun _ _ _ _ _ => pts_nil) (fun _ _ _ _ _ => (pe_op op_addU (pe_op op_addU (pe_slice sl_U (pv 8) po_none (po_some (pv 7))) (pv 13)) (pv 10))))))))))))))), ?_⟩)
  · obtain ⟨b, m, R, D, x, y, z, n, rfl, _⟩ := h
    rfl
  · obtain ⟨b, m, R, D, x, y, z, n, rfl, hI, hb, hn, m0, m1, go⟩ := h
    have labc : LP Abc (Str.ofString "abcdefghijklmnopqrstuvwxyz") := fun c hc => hc
    wtm_at "go"
    wtm_at "sy"
    refine RIx.pick (P := fun v => ∃ i, v = .int i ∧ (i = 1 ∨ i = 3 ∨ i = 5 ∨ i = 7 ∨ i = 9 ∨ i = 11 ∨ i = 15)) (by wtm_at "hp") (all_c ⟨_, rfl, by omega⟩ (all_c ⟨_, rfl, by omega⟩ (all_c ⟨_, rfl, by omega⟩ (all_c ⟨_, rfl, by omega⟩ (all_c ⟨_, rfl, by omega⟩ (all_c ⟨_, rfl, by omega⟩ (all_c ⟨_, rfl, by omega⟩ all_n))))))) (by assumption) (by assumption) (fun v hv => ?_)
    obtain ⟨step, rfl, hst⟩ := hv
    have st0 : 1 ≤ step := by omega
    have st1 : step ≤ 20 := by omega
    wtm_at "sy"
    rename_i way _ _ _ _ _ _ way0 way1 fi _ _ _ _ _ _ fi0 fi1 _ _ _ _ _ _ sz _ _ _ _ _ _ sz0 sz1 _ _ _ _ _ _ _ _ _ _ _ _ _ _ _ _ _ _ _ _ _ at_ _ _ _ _ _ _ at0 at1
    refine lc_rng (fun j acc R' D' => ∃ x y z n' ys, R' = (b, bx x y z) :: R ∧ BoxOk n' x y z ∧ n' = n + 5 + j ∧ D' = _ ∧ acc = ys.map V.str ∧ OnesP Abc ys ∧ ys.length = j) (by wtm_at "hi") ⟨_, _, _, _, [], rfl, by assumption, rfl, rfl, rfl, OnesP.nil, rfl⟩ (fun L j acc R' D' H' hj hI' p hl => ?_) (fun L acc R' D' H' hI' p hl => ?_)
    · obtain ⟨x1, y1, z1, n1, ys, rfl, hb1, en, rfl, rfl, ho, hlen⟩ := p
      wtm_at "sy"
      refine RIx.sgn (Nat.le_of_ble_eq_true rfl) (by assumption) (by assumption) (fun c hc => ?_)
      refine le_mk (by wtm_at "hi") ⟨_, _, _, _, ys ++ [⟨#[c]⟩], rfl, by assumption, by omega, rfl, by rw [List.map_append]; rfl, ho.snoc labc hc, by rw [List.length_append, hlen]; rfl⟩ hl (by omega)
    · obtain ⟨x1, y1, z1, n1, ys, rfl, hb1, en, rfl, rfl, ho, hlen⟩ := p
      have hI2 := hI'.drop
      have sm := ho.sum
      obtain ⟨jl, js⟩ := onesP_join ho
      refine RJoin.mk (hI'.get (List.mem_cons_self ..)) (by rw [sm, hlen]; decide) ?_
      have jl7 : (Txt.join (Str.ofString "") ys).length = 7 := by
        rw [jl, hlen]
      generalize Txt.join (Str.ofString "") ys = stem at jl7 js ⊢
      wtm_at "sy"
      refine if_dec (fun h => ?_) (fun h => ?_)
      · wtm_at "sy"
        have hsp : Txt.split (Str.ofString "of needs keeps bears week heads bed row last kin from to sow cut none a ab all") (Str.ofString " ") = words18 := by decide +kernel
        refine RSplit.mk rfl (Nat.le_of_ble_eq_true rfl) ?_
        rw [hsp]
        wtm_at "sy"
        refine RIx.pick (P := fun v => ∃ i, v = .int i ∧ (i = 1 ∨ i = 5 ∨ i = 7 ∨ i = 11 ∨ i = 13 ∨ i = 17)) (by wtm_at "hp") (all_c ⟨_, rfl, by omega⟩ (all_c ⟨_, rfl, by omega⟩ (all_c ⟨_, rfl, by omega⟩ (all_c ⟨_, rfl, by omega⟩ (all_c ⟨_, rfl, by omega⟩ (all_c ⟨_, rfl, by omega⟩ all_n)))))) (by omega) (by show step % 6 < 6; omega) (fun v hv => ?_)
        obtain ⟨step2, rfl, hst2⟩ := hv
        have sa : 1 ≤ step2 := by omega
        have sb : step2 ≤ 20 := by omega
        wtm_at "sy"
        refine lc_rng (fun j acc R' D' => ∃ ys : List Str, R' = _ ∧ D' = _ ∧ acc = ys.map V.str ∧ ys.length = j ∧ (∀ y ∈ ys, Nm y) ∧ ∀ (i : Nat) y, ys[i]? = some y → some y = words18[ix18 fi step2 i]?) (by wtm_at "hi") ⟨[], rfl, rfl, rfl, rfl, all_n, fun i y h => by simp at h⟩ (fun L j acc R' D' H' hj hI' p hl => ?_) (fun L acc R' D' H' hI' p hl => ?_)
        · obtain ⟨zs, rfl, rfl, rfl, hlen2, hz, hk⟩ := p
          wtm_at "sy"
          refine RIx.strI (ys := words18) (by wtm_at "hp") (by omega) (by show _ % 18 < 18; omega) (fun y hy ey => ?_)
          obtain ⟨q1, q2⟩ := names_snoc hz hlen2 (words18_nm y hy)
          exact le_mk (by wtm_at "hi") ⟨zs ++ [y], rfl, rfl, by rw [List.map_append]; rfl, q2, q1, key_snoc (key := some) (f := fun i => words18[ix18 fi step2 i]?) hk (by rw [hlen2]; exact ey.symm)⟩ hl (by omega)
        · obtain ⟨zs, rfl, rfl, rfl, hlen2, hz, hk⟩ := p
          exact go _ zs _ _ _ _ _ _ hI'.freeze (Ex.trans (by wtm_at "ex") hI'.freezeX) (by assumption) (by omega) upd_same (by omega) hz fun hm => nodup_at (W := words18) (by decide +kernel) some (ix18 fi step2) hk (fun i hi => ix18_lt) fun i j hi hj e => ix18_inj hst2 (by omega) (by omega) e
      · wtm_at "sy"
        refine if_dec (fun h1 => ?_) (fun h1 => ?_)
        · wtm_at "sy"
          refine if_dec (fun h2 => ?_) (fun h2 => ?_)
          · wtm_at "sy"
            refine RIx.sgn (Nat.le_of_ble_eq_true rfl) (by assumption) (by assumption) (fun c hc => ?_)
            have l1 : (⟨#[c]⟩ : Str).length = 1 := rfl
            refine radd_p (P := Abc) (by omega) js (labc.one hc) (fun stem2 ls2 ps2 => ?_)
            wtm_at "sy"
            refine lc_rng (fun j acc R' D' => ∃ ys : List Str, R' = _ ∧ D' = _ ∧ acc = ys.map V.str ∧ ys.length = j ∧ (∀ y ∈ ys, Nm y) ∧ ∀ (i : Nat) y, ys[i]? = some y → y.length = (1 + (at_ + (0 + (i : Int))) % 8).toNat) (by wtm_at "hi") ⟨[], rfl, rfl, rfl, rfl, all_n, fun i y h => by simp at h⟩ (fun L j acc R' D' H' hj hI' p hl => ?_) (fun L acc R' D' H' hI' p hl => ?_)
            · obtain ⟨zs, rfl, rfl, rfl, hlen2, hz, hk⟩ := p
              wtm_at "sy"
              have c1 := cut_to_len (z := stem2) (k := 1 + (at_ + (0 + (j : Int))) % 8) (by omega)
              obtain ⟨q1, q2⟩ := names_snoc hz hlen2 (show Nm (cutS stem2 none (some (1 + (at_ + (0 + (j : Int))) % 8))) from ⟨by omega, by omega, ps2.cut _ _⟩)
              exact le_mk (by wtm_at "hi") ⟨zs ++ [_], rfl, rfl, by rw [List.map_append]; rfl, q2, q1, key_snoc (key := Str.length) (f := fun i => (1 + (at_ + (0 + (i : Int))) % 8).toNat) hk (by have := c1.2 (by omega); rw [hlen2]; omega)⟩ hl (by omega)
            · obtain ⟨zs, rfl, rfl, rfl, hlen2, hz, hk⟩ := p
              exact go _ zs _ _ _ _ _ _ hI'.freeze (Ex.trans (by wtm_at "ex") hI'.freezeX) (by assumption) (by omega) upd_same (by omega) hz fun hm => nodup_key Str.length (fun i => (1 + (at_ + (0 + (i : Int))) % 8).toNat) hk fun i j hi hj e => by
                have e : (1 + (at_ + (0 + (i : Int))) % 8).toNat = (1 + (at_ + (0 + (j : Int))) % 8).toNat := e
                omega
          · wtm_at "sy"
            refine lc_rng (fun j acc R' D' => ∃ ys : List Str, R' = _ ∧ D' = _ ∧ acc = ys.map V.str ∧ ys.length = j ∧ OnesP Abc ys ∧ ∀ (i : Nat) y, ys[i]? = some y → ∃ c, y = (⟨#[c]⟩ : Str) ∧ abc26[ix26 fi step i]? = some c) (by wtm_at "hi") ⟨[], rfl, rfl, rfl, rfl, OnesP.nil, fun i y h => by simp at h⟩ (fun L j acc R' D' H' hj hI' p hl => ?_) (fun L acc R' D' H' hI' p hl => ?_)
            · obtain ⟨zs, rfl, rfl, rfl, hlen2, hz, hk⟩ := p
              wtm_at "sy"
              refine RIx.sgnI (Nat.le_of_ble_eq_true rfl) (by omega) (by show _ % 26 < 26; omega) (fun c hc ec => ?_)
              refine le_mk (by wtm_at "hi") ⟨zs ++ [⟨#[c]⟩], rfl, rfl, by rw [List.map_append]; rfl, by rw [List.length_append, hlen2]; rfl, hz.snoc labc hc, fun i y hy => ?_⟩ hl (by omega)
              rcases Nat.lt_or_ge i zs.length with h | h
              · rw [List.getElem?_append_left h] at hy
                exact hk i y hy
              · rw [List.getElem?_append_right h] at hy
                have h0 : i - zs.length = 0 := by
                  have := (List.getElem?_eq_some_iff.mp hy).1
                  simp at this
                  omega
                rw [h0] at hy
                cases hy
                have hi : i = j := by omega
                subst hi
                exact ⟨c, rfl, ec⟩
            · obtain ⟨zs, rfl, rfl, rfl, hlen2, hz, hk⟩ := p
              have hF := hI'.freeze
              have xF := hI'.freezeX
              refine sg_name ?_
              dsimp only [List.set]
              refine st_ret ?_
              refine se_lc ?_
              refine it_list ?_
              refine se_var rfl ?_
              refine list_mk (hF.dat upd_same) ?_
              refine lc_lst (xs := zs.map V.str) (fun j acc R' D' => ∃ ys : List Str, R' = _ ∧ D' = _ ∧ acc = ys.map V.str ∧ ys.length = j ∧ (∀ y ∈ ys, Nm y) ∧ ∀ (i : Nat) y, ys[i]? = some y → y.cps.toList[at_.toNat]? = abc26[ix26 fi step i]?) hF ⟨[], rfl, rfl, rfl, rfl, all_n, fun i y h => by simp at h⟩ (fun j acc R' D' q => ?_) (fun L2 j acc v R' D' H2 hv hI2 q hl2 => ?_) (fun L2 acc R' D' H2 hI2 q hl2 => ?_)
              · obtain ⟨_, rfl, rfl, _⟩ := q
                exact upd_same
              · obtain ⟨us, rfl, rfl, rfl, hlen3, hu, hku⟩ := q
                rw [List.getElem?_map] at hv
                obtain ⟨sn, hsn, rfl⟩ := Option.map_eq_some_iff.mp hv
                obtain ⟨s1, s2⟩ := hz sn (List.mem_of_getElem? hsn)
                obtain ⟨c, rfl, ec⟩ := hk j sn hsn
                have hj2 : j < zs.length := (List.getElem?_eq_some_iff.mp hsn).1
                wtm_at "sy"
                have c1 := cut_to_len (z := stem) at0
                have c2 := cut_mid_len (z := stem) (a := at_) (b := 1 + sz - 1) at0 (by omega)
                have l1 : (⟨#[c]⟩ : Str).length = 1 := rfl
                refine RAdd.str (small_ok (by omega)) ?_
                have e1 := len_app (cutS stem none (some at_)) (⟨#[c]⟩ : Str)
                have e2 := len_app (cutS stem none (some at_) ++ (⟨#[c]⟩ : Str)) (cutS stem (some at_) (some (1 + sz - 1)))
                wtm_at "sy"
                try (refine RAdd.str (small_ok (by omega)) ?_; wtm_at "sy")
                obtain ⟨q1, q2⟩ := names_snoc hu hlen3 (show Nm (cutS stem none (some at_) ++ (⟨#[c]⟩ : Str) ++ cutS stem (some at_) (some (1 + sz - 1))) from ⟨by omega, by omega, ((js.cut none (some at_)).app s2).app (js.cut _ _)⟩)
                exact le_mk (by wtm_at "hi") ⟨us ++ [_], rfl, rfl, by rw [List.map_append]; rfl, q2, q1, key_snoc (key := fun y : Str => y.cps.toList[at_.toNat]?) (f := fun i => abc26[ix26 fi step i]?) hku (by rw [hlen3]; exact (mid_at (by have := c1.2 (by omega); omega)).trans ec.symm)⟩ hl2 (by omega)
              · obtain ⟨us, rfl, rfl, rfl, hlen3, hu, hku⟩ := q
                exact go _ us _ _ _ _ _ _ hI2.freeze (Ex.trans (by wtm_at "ex") (xF.trans hI2.freezeX)) (by assumption) (by omega) upd_same (by rw [hlen3, List.length_map]; omega) hu fun hm => nodup_at (W := abc26) (by decide +kernel) (fun y : Str => y.cps.toList[at_.toNat]?) (ix26 fi step) hku (fun i hi => ix26_lt) fun i j hi hj e => ix26_inj hst (by omega) (by omega) e
        · wtm_at "sy"
          refine lc_rng (fun j acc R' D' => ∃ ys : List Str, R' = _ ∧ D' = _ ∧ acc = ys.map V.str ∧ ys.length = j ∧ OnesP Abc ys ∧ ∀ (i : Nat) y, ys[i]? = some y → ∃ c, y = (⟨#[c]⟩ : Str) ∧ abc26[ix26 fi step i]? = some c) (by wtm_at "hi") ⟨[], rfl, rfl, rfl, rfl, OnesP.nil, fun i y h => by simp at h⟩ (fun L j acc R' D' H' hj hI' p hl => ?_) (fun L acc R' D' H' hI' p hl => ?_)
          · obtain ⟨zs, rfl, rfl, rfl, hlen2, hz, hk⟩ := p
            wtm_at "sy"
            refine RIx.sgnI (Nat.le_of_ble_eq_true rfl) (by omega) (by show _ % 26 < 26; omega) (fun c hc ec => ?_)
            refine le_mk (by wtm_at "hi") ⟨zs ++ [⟨#[c]⟩], rfl, rfl, by rw [List.map_append]; rfl, by rw [List.length_append, hlen2]; rfl, hz.snoc labc hc, fun i y hy => ?_⟩ hl (by omega)
            rcases Nat.lt_or_ge i zs.length with h | h
            · rw [List.getElem?_append_left h] at hy
              exact hk i y hy
            · rw [List.getElem?_append_right h] at hy
              have h0 : i - zs.length = 0 := by
                have := (List.getElem?_eq_some_iff.mp hy).1
                simp at this
                omega
              rw [h0] at hy
              cases hy
              have hi : i = j := by omega
              subst hi
              exact ⟨c, rfl, ec⟩
          · obtain ⟨zs, rfl, rfl, rfl, hlen2, hz, hk⟩ := p
            have hF := hI'.freeze
            have xF := hI'.freezeX
            refine sg_name ?_
            dsimp only [List.set]
            refine st_ret ?_
            refine se_lc ?_
            refine it_list ?_
            refine se_var rfl ?_
            refine list_mk (hF.dat upd_same) ?_
            refine lc_lst (xs := zs.map V.str) (fun j acc R' D' => ∃ ys : List Str, R' = _ ∧ D' = _ ∧ acc = ys.map V.str ∧ ys.length = j ∧ (∀ y ∈ ys, Nm y) ∧ ∀ (i : Nat) y, ys[i]? = some y → y.cps.toList[at_.toNat]? = abc26[ix26 fi step i]?) hF ⟨[], rfl, rfl, rfl, rfl, all_n, fun i y h => by simp at h⟩ (fun j acc R' D' q => ?_) (fun L2 j acc v R' D' H2 hv hI2 q hl2 => ?_) (fun L2 acc R' D' H2 hI2 q hl2 => ?_)
            · obtain ⟨_, rfl, rfl, _⟩ := q
              exact upd_same
            · obtain ⟨us, rfl, rfl, rfl, hlen3, hu, hku⟩ := q
              rw [List.getElem?_map] at hv
              obtain ⟨sn, hsn, rfl⟩ := Option.map_eq_some_iff.mp hv
              obtain ⟨s1, s2⟩ := hz sn (List.mem_of_getElem? hsn)
              obtain ⟨c, rfl, ec⟩ := hk j sn hsn
              have hj2 : j < zs.length := (List.getElem?_eq_some_iff.mp hsn).1
              wtm_at "sy"
              have c1 := cut_to_len (z := stem) at0
              have c2 := cut_mid_len (z := stem) (a := at_) (b := 1 + sz - 1) at0 (by omega)
              have l1 : (⟨#[c]⟩ : Str).length = 1 := rfl
              refine RAdd.str (small_ok (by omega)) ?_
              have e1 := len_app (cutS stem none (some at_)) (⟨#[c]⟩ : Str)
              have e2 := len_app (cutS stem none (some at_) ++ (⟨#[c]⟩ : Str)) (cutS stem (some at_) (some (1 + sz - 1)))
              wtm_at "sy"
              try (refine RAdd.str (small_ok (by omega)) ?_; wtm_at "sy")
              obtain ⟨q1, q2⟩ := names_snoc hu hlen3 (show Nm (cutS stem none (some at_) ++ (⟨#[c]⟩ : Str) ++ cutS stem (some at_) (some (1 + sz - 1))) from ⟨by omega, by omega, ((js.cut none (some at_)).app s2).app (js.cut _ _)⟩)
              exact le_mk (by wtm_at "hi") ⟨us ++ [_], rfl, rfl, by rw [List.map_append]; rfl, q2, q1, key_snoc (key := fun y : Str => y.cps.toList[at_.toNat]?) (f := fun i => abc26[ix26 fi step i]?) hku (by rw [hlen3]; exact (mid_at (by have := c1.2 (by omega); omega)).trans ec.symm)⟩ hl2 (by omega)
            · obtain ⟨us, rfl, rfl, rfl, hlen3, hu, hku⟩ := q
              exact go _ us _ _ _ _ _ _ hI2.freeze (Ex.trans (by wtm_at "ex") (xF.trans hI2.freezeX)) (by assumption) (by omega) upd_same (by rw [hlen3, List.length_map]; omega) hu fun hm => nodup_at (W := abc26) (by decide +kernel) (fun y : Str => y.cps.toList[at_.toNat]?) (ix26 fi step) hku (fun i hi => ix26_lt) fun i j hi hj e => ix26_inj hst (by omega) (by omega) e
/-- what the maker of a sort has found to be good -/
theorem sort_none {K : PySem.W.Frag} {a b c d e : V} (h : sortBad K a b c d e = none) : ∃ u : Srt, u.Ok ∧ a = .str u.nm ∧ b = .str u.kn ∧ c = .int u.n ∧ d = .int u.k ∧ e = .int u.b := by
  unfold sortBad at h
  cases h1 : nameB a with
  | false => rw [if_pos h1] at h; cases h
  | true =>
    rw [if_neg (by rw [h1]; decide)] at h
    cases h2 : nameB b with
    | false => rw [if_pos h2] at h; cases h
    | true =>
      rw [if_neg (by rw [h2]; decide)] at h
      cases h3 : wholeB c 1 10000 with
      | false => rw [if_pos h3] at h; cases h
      | true =>
        rw [if_neg (by rw [h3]; decide)] at h
        cases h4 : wholeB d 1 12 with
        | false => rw [if_pos h4] at h; cases h
        | true =>
          rw [if_neg (by rw [h4]; decide)] at h
          cases h5 : wholeB e (-60) 60 with
          | false => rw [if_pos h5] at h; cases h
          | true =>
            obtain ⟨n, rfl, hn⟩ := nm_is h1
            obtain ⟨k, rfl, hk⟩ := nm_is h2
            obtain ⟨i, rfl, i0, i1⟩ := whole_is h3
            obtain ⟨j, rfl, j0, j1⟩ := whole_is h4
            obtain ⟨l, rfl, l0, l1⟩ := whole_is h5
            exact ⟨⟨n, k, i, j, l⟩, ⟨hn, hk, i0, i1, j0, j1, l0, l1⟩, rfl, rfl, rfl, rfl, rfl⟩
theorem sort_good' {K : PySem.W.Frag} {s : Srt} (h : s.Ok) : sortBad K (.str s.nm) (.str s.kn) (.int s.n) (.int s.k) (.int s.b) = none := by
  unfold sortBad
  rw [h.nm.is, h.kn.is, whole_ok h.n0 h.n1, whole_ok h.k0 h.k1, whole_ok h.b0 h.b1]
  rfl
theorem make_srt {K : PySem.W.Frag} {x dx : Addr} {a b c d e : V} {R : Cells} {D H : Hp} {P : Hp → Prop} {E : XK} (hI : HI H ((x, .ins (He.ga K "Sort") dx []) :: (dx, .own x) :: R) D) (ta : Mt K R D a) (tb : Mt K R D b) (tc : Mt K R D c) (td : Mt K R D d) (te : Mt K R D e)
    (good : ∀ u H' D', HI H' R D' → Ex D D' → IsSrt K D' x u → a = .str u.nm → b = .str u.kn → c = .int u.n → d = .int u.k → e = .int u.b → P H') (bad : ∀ C v, sortBad K a b c d e = some (C, v) → Outs E C v R D) :
    spSortInit K [.ref x, a, b, c, d, e] H (fun v H2 => v = .non ∧ P H2) E := by
  refine ⟨x, dx, _, _, _, _, _, _, D, rfl, hI, ta.cell, tb.cell, tc.cell, td.cell, te.cell, fun h H' D' hI' ex => ⟨rfl, ?_⟩, fun C v h => (bad C v h).cell.cell⟩
  obtain ⟨u, ok, e1, e2, e3, e4, e5⟩ := sort_none h
  obtain ⟨D2, h2, x2, e6⟩ := hI'.freezeI
  refine good u _ _ h2 (ex.trans x2) ⟨ok, dx, ?_⟩ e1 e2 e3 e4 e5
  rw [e1, e2, e3, e4, e5] at e6
  exact e6
theorem make_good {K : PySem.W.Frag} {x dx : Addr} {s : Srt} {R : Cells} {D H : Hp} {P : Hp → Prop} {E : XK} (hI : HI H ((x, .ins (He.ga K "Sort") dx []) :: (dx, .own x) :: R) D) (ok : s.Ok) (q : ∀ H' D', HI H' R D' → Ex D D' → IsSrt K D' x s → P H') :
    spSortInit K [.ref x, .str s.nm, .str s.kn, .int s.n, .int s.k, .int s.b] H (fun v H2 => v = .non ∧ P H2) E := by
  refine make_srt hI (Th.str ok.nm.txt).m (Th.str ok.kn.txt).m (Th.kn (.int _)).m (Th.kn (.int _)).m (Th.kn (.int _)).m (fun u H' D' h1 h2 h3 e1 e2 e3 e4 e5 => ?_) (fun C v h => ?_)
  · obtain ⟨n, k, i, j, l⟩ := u
    obtain ⟨n', k', i', j', l'⟩ := s
    cases e1; cases e2; cases e3; cases e4; cases e5
    exact q _ _ h1 h2 h3
  · rw [sort_good' ok] at h
    cases h
abbrev Srt.l (s : Srt) : List V := [.str s.nm, .str s.kn, .int s.n, .int s.k, .int s.b]
def Srt.lD (s : Srt) : PyData := .list [.str s.nm, .str s.kn, .int s.n, .int s.k, .int s.b]
def PartsAt (D : Hp) (v : V) (s : Srt) : Prop := ∃ p, v = .ref p ∧ D p = some (.lst s.l)
theorem PartsAt.mono {D D' : Hp} {v : V} {s : Srt} (h : PartsAt D v s) (x : Ex D D') : PartsAt D' v s := let ⟨p, e, h⟩ := h; ⟨p, e, x _ _ h⟩
theorem PartsAt.rep {D : Hp} {v : V} {s : Srt} (h : PartsAt D v s) : Rep D v s.lD := by
  obtain ⟨p, rfl, e⟩ := h
  exact .lst e (.cons (.str _) (.cons (.str _) (.cons (.int _) (.cons (.int _) (.cons (.int _) .nil)))))
/-- rows that make Sorts -/
structure RwsOk (us : List Srt) : Prop where
  ok : ∀ u ∈ us, u.Ok
  nd : (us.map (·.nm)).Nodup
  l : us.length ≤ 12
def spBound : Sp := fun vs H Q _ => ∃ (b : Addr) (lo hi : Int) (R : Cells) (D : Hp) (x y z : Int) (n : Nat), vs = [.ref b, .int lo, .int hi] ∧ HI H ((b, bx x y z) :: R) D ∧ BoxOk n x y z ∧ n + 100 < 1000000 ∧ -1000000 ≤ lo ∧ lo ≤ hi ∧ hi ≤ 1000000 ∧
  ∀ i x' y' z' n' H' D', HI H' ((b, bx x' y' z') :: R) D' → Ex D D' → BoxOk n' x' y' z' → n' ≤ n + 3 → lo ≤ i → i ≤ hi → Q (.int i) H'
theorem bound_now {b : Addr} {lo hi : Int} {R : Cells} {D H : Hp} {x y z : Int} {n : Nat} {Q : VK} {E : XK} (h : HI H ((b, bx x y z) :: R) D) (hb : BoxOk n x y z) (hn : n + 100 < 1000000) (l0 : -1000000 ≤ lo) (lh : lo ≤ hi) (h1 : hi ≤ 1000000)
    (q : ∀ i x' y' z' n' H' D', HI H' ((b, bx x' y' z') :: R) D' → Ex D D' → BoxOk n' x' y' z' → n' ≤ n + 3 → lo ≤ i → i ≤ hi → Q (.int i) H') : spBound ([V.ref b, V.int lo, V.int hi] ++ []) H Q E := ⟨b, lo, hi, R, D, x, y, z, n, rfl, h, hb, hn, l0, lh, h1, q⟩
set_option maxHeartbeats 1000000 in
theorem ok_l_bound {P : Program} {w : World} {K : PySem.W.Frag} {mg : Str → Option Value} {base : Heap} (T : Tx K mg) : FnG P w K mg base 2 (a_l_bound K) ["box", "low", "high"] spBound := by
  refine T.f_l_bound.ok sc_l_bound (fun vs H Q E h => ?_) (fun cdv A outer s H vs Q E hgu hr h => ⟨_, (pss_cons (ps_set (i := 3) sc_l_bound.nd rfl (Or.inl rfl) (pe_op op_addU (pe_op op_sub (pv 2) (pv 1)) pe_int))
 (pss_cons (ps_set (i := 4) sc_l_bound.nd rfl (Or.inl rfl) (pe_lstM (pa_cons (pv 1) (pa_cons (pv 2) (pa_cons (pe_op op_addU (pv 1) (ge_call (ok_l_take T) hgu (hr.mono (by decide)) rfl T.g_l_take T.k_l_take T.b_l_take .nil (fun _ => pass_takes (takes_of rfl rfl rfl rfl)) (pa_cons (pv 0) (pa_cons (pv 3) pa_nil)))) pa_nil)))))
 (pss_cons (ps_expr (pe_bm PySem.F.plainAttrs_list PySem.F.slot_list_append PySem.F.type_list_append mt_append (pv 4) (pa_cons (pe_op op_addU (pv 1) (ge_call (ok_l_take T) hgu (hr.mono (by decide)) rfl T.g_l_take T.k_l_take T.b_l_take .nil (fun _ => pass_takes (takes_of rfl rfl rfl rfl)) (pa_cons (pv 0) (pa_cons (pe_callB (call_minU rfl) (by rfl) T.n_min boot_min (pa_cons pe_int (pa_cons (pv 3) pa_nil))) pa_nil)))) pa_nil)))
 (pss_one (ps_ret (pe_ix ix_U (pv 4) (ge_call (ok_l_take T) hgu (hr.mono (by decide)) rfl T.g_l_take T.k_l_take T.b_l_take .nil (fun _ => pass_takes (takes_of rfl rfl rfl rfl)) (pa_cons (pv 0) (pa_cons pe_int pa_nil))) (fun _ _ => rfl))))))), ?_⟩)
  · obtain ⟨b, lo, hi, R, D, x, y, z, n, rfl, _⟩ := h
    rfl
  · obtain ⟨b, lo, hi, R, D, x, y, z, n, rfl, hI, hb, hn, l0, lh, h1, go⟩ := h
    wtm_at "go"
    wtm_at "sd"
    refine RIx.pick (P := fun v => ∃ i : Int, v = .int i ∧ lo ≤ i ∧ i ≤ hi) (by wtm_at "hp") (all_c ⟨_, rfl, by omega, by omega⟩ (all_c ⟨_, rfl, by omega, by omega⟩ (all_c ⟨_, rfl, by omega, by omega⟩ (all_c ⟨_, rfl, by omega, by omega⟩ all_n)))) (by assumption) (by assumption) (fun v hv => ?_)
    obtain ⟨i, rfl, i0, i1⟩ := hv
    exact go i _ _ _ _ _ _ (HI.drop (HI.swap (by assumption))) (by wtm_at "ex") (by assumption) (by omega) i0 i1
def spLParts : Sp := fun vs H Q _ => ∃ (b : Addr) (nm kn : Str) (R : Cells) (D : Hp) (x y z : Int) (n : Nat), vs = [.ref b, .str nm, .str kn] ∧ HI H ((b, bx x y z) :: R) D ∧ BoxOk n x y z ∧ n + 200 < 1000000 ∧ Nm nm ∧ Nm kn ∧
  ∀ (p : Addr) (s : Srt) x' y' z' n' H' D', HI H' ((b, bx x' y' z') :: R) D' → Ex D D' → BoxOk n' x' y' z' → n' ≤ n + 9 → D' p = some (.lst s.l) → s.Ok → s.nm = nm → s.kn = kn → Q (.ref p) H'
set_option maxHeartbeats 1000000 in
theorem ok_l_parts {P : Program} {w : World} {K : PySem.W.Frag} {mg : Str → Option Value} {base : Heap} (T : Tx K mg) : FnG P w K mg base 3 (a_l_parts K) ["box", "called", "clan"] spLParts := by
  refine T.f_l_parts.ok sc_l_parts (fun vs H Q E h => ?_) (fun cdv A outer s H vs Q E hgu hr h => ⟨_, (pss_one (ps_ret (pe_lst (pa_cons (pv 1) (pa_cons (pv 2) (pa_cons (ge_call (ok_l_bound T) hgu (hr.mono (by decide)) rfl T.g_l_bound T.k_l_bound T.b_l_bound .nil (fun _ => pass_takes (takes_of rfl rfl rfl rfl)) (pa_cons (pv 0) (pa_cons pe_int (pa_cons pe_int pa_nil)))) (pa_cons (ge_call (ok_l_bound T) hgu (hr.mono (by decide)) rfl T.g_l_bound T.k_l_bound T.b_l_bound .nil (fun _ => pass_takes (takes_of rfl rfl rfl rfl)) (pa_cons (pv 0) (pa_cons pe_int (pa_cons pe_int pa_nil)))) (pa_cons (ge_call (ok_l_bound T) hgu (hr.mono (by decide)) rfl T.g_l_bound T.k_l_bound T.b_l_bound .nil (fun _ => pass_takes (takes_of rfl rfl rfl rfl)) (pa_cons (pv 0) (pa_cons (pe_un un_neg pe_int) (pa_cons pe_int pa_nil)))) pa_nil)))))))), ?_⟩)
  · obtain ⟨b, nm, kn, R, D, x, y, z, n, rfl, _⟩ := h
    rfl
  · obtain ⟨b, nm, kn, R, D, x, y, z, n, rfl, hI, hb, hn, hnm, hkn, go⟩ := h
    wtm_at "go"
    wtm_at "sn"
    refine bound_now hI hb (by omega) (by decide) (by decide) (by decide) (fun i1 x1 y1 z1 n1 H1 D1 hI1 ex1 bo1 hn1 a0 a1 => ?_)
    wtm_at "sn"
    refine bound_now hI1 bo1 (by omega) (by decide) (by decide) (by decide) (fun i2 x2 y2 z2 n2 H2 D2 hI2 ex2 bo2 hn2 b0 b1 => ?_)
    wtm_at "sn"
    refine bound_now hI2 bo2 (by omega) (by decide) (by decide) (by decide) (fun i3 x3 y3 z3 n3 H3 D3 hI3 ex3 bo3 hn3 c0 c1 => ?_)
    wtm_at "sn"
    rename_i p H4 D4 hI4 x4 e4
    exact go p ⟨nm, kn, i1, i2, i3⟩ _ _ _ _ _ _ hI4 (ex1.trans (ex2.trans (ex3.trans x4))) bo3 (by omega) e4 ⟨hnm, hkn, a0, a1, b0, b1, c0, c1⟩ rfl rfl
theorem lnames_use {b : Addr} {m : Int} {R : Cells} {D H : Hp} {x y z : Int} {n : Nat} {Q : VK} {E : XK} (hI : HI H ((b, bx x y z) :: R) D) (bo : BoxOk n x y z) (hn : n + 100 < 1000000) (m0 : 0 ≤ m) (m1 : m ≤ 100)
  (k : ∀ (p : Addr) (ys : List Str) x' y' z' n' H' D', HI H' ((b, bx x' y' z') :: R) D' → Ex D D' → BoxOk n' x' y' z' → n' ≤ n + 20 → D' p = some (.lst (ys.map V.str)) → (ys.length : Int) = m → (∀ y ∈ ys, Nm y) → (m ≤ 12 → ys.Nodup) → Q (.ref p) H') : spNames [.ref b, .int m] H Q E := ⟨b, m, R, D, x, y, z, n, rfl, hI, bo, hn, m0, m1, k⟩
theorem lparts_use {b : Addr} {nm kn : Str} {R : Cells} {D H : Hp} {x y z : Int} {n : Nat} {Q : VK} {E : XK} (hI : HI H ((b, bx x y z) :: R) D) (bo : BoxOk n x y z) (hn : n + 200 < 1000000) (h1 : Nm nm) (h2 : Nm kn)
  (k : ∀ (p : Addr) (s : Srt) x' y' z' n' H' D', HI H' ((b, bx x' y' z') :: R) D' → Ex D D' → BoxOk n' x' y' z' → n' ≤ n + 9 → D' p = some (.lst s.l) → s.Ok → s.nm = nm → s.kn = kn → Q (.ref p) H') : spLParts [.ref b, .str nm, .str kn] H Q E := ⟨b, nm, kn, R, D, x, y, z, n, rfl, hI, bo, hn, h1, h2, k⟩
theorem cutV_to {xs : List V} {k : Nat} : cutV xs none (some (k : Int)) = xs.take k := by
  unfold cutV
  simp only [sIx_le']
  show (xs.drop 0).take (min k xs.length - 0) = _
  rw [List.drop_zero, Nat.sub_zero]
  by_cases h : k ≤ xs.length
  · rw [Nat.min_eq_left h]
  · rw [Nat.min_eq_right (by omega), List.take_of_length_le (Nat.le_refl _), List.take_of_length_le (by omega)]
theorem paired_snoc {α β : Type} {r : α → β → Prop} {x : α} {y : β} (h : r x y) : ∀ {xs : List α} {ys : List β}, Paired r xs ys → Paired r (xs ++ [x]) (ys ++ [y])
  | _, _, .nil => .cons h .nil
  | _, _, .cons a l => .cons a (paired_snoc h l)
def spLRowsS : Sp := fun vs H Q _ => ∃ (b : Addr) (R : Cells) (D : Hp) (x y z : Int) (n : Nat), vs = [.ref b] ∧ HI H ((b, bx x y z) :: R) D ∧ BoxOk n x y z ∧ n + 1000 < 1000000 ∧
  ∀ (p : Addr) (xs : List V) (us : List Srt) x' y' z' n' H' D', HI H' ((b, bx x' y' z') :: R) D' → Ex D D' → BoxOk n' x' y' z' → n' ≤ n + 300 → D' p = some (.lst xs) → Paired (PartsAt D') xs us → RwsOk us → Q (.ref p) H'
set_option maxHeartbeats 2000000 in
theorem ok_l_rows {P : Program} {w : World} {K : PySem.W.Frag} {mg : Str → Option Value} {base : Heap} (T : Tx K mg) : FnG P w K mg base 4 (a_l_rows K) ["box"] spLRowsS := by
  refine T.f_l_rows.ok sc_l_rows (fun vs H Q E h => ?_) (fun cdv A outer s H vs Q E hgu hr h => ⟨_, (pss_cons (ps_set (i := 1) sc_l_rows.nd rfl (Or.inl rfl) (ge_call (ok_l_names T) hgu (hr.mono (by decide)) rfl T.g_l_names T.k_l_names T.b_l_names .nil (fun _ => pass_takes (takes_of rfl rfl rfl rfl)) (pa_cons (pv 0) (pa_cons pe_int pa_nil))))
 (pss_cons (ps_set (i := 2) sc_l_rows.nd rfl (Or.inl rfl) (ge_call (ok_l_names T) hgu (hr.mono (by decide)) rfl T.g_l_names T.k_l_names T.b_l_names .nil (fun _ => pass_takes (takes_of rfl rfl rfl rfl)) (pa_cons (pv 0) (pa_cons pe_int pa_nil))))
 (pss_cons (ps_set (i := 3) sc_l_rows.nd rfl (Or.inl rfl) (pe_lstM pa_nil))
 (pss_cons (ps_for (passes_of rfl) rfl (pi_list (pe_slice sl_U (pv 1) po_none (po_some (ge_call (ok_l_take T) hgu (hr.mono (by decide)) rfl T.g_l_take T.k_l_take T.b_l_take .nil (fun _ => pass_takes (takes_of rfl rfl rfl rfl)) (pa_cons (pv 0) (pa_cons (pe_op op_addU (pe_callB (call_lenU) (by rfl) T.n_len boot_len (pa_cons (pv 1) pa_nil)) pe_int) pa_nil)))))) (pg_name (i := 4) sc_l_rows.nd rfl (Or.inl rfl)) (pss_cons (ps_set (i := 5) sc_l_rows.nd rfl (Or.inl rfl) (pe_ix ix_U (pe_lst (pa_cons (pe_ix ix_U (pv 2) pe_int (fun _ _ => rfl)) (pa_cons (pe_ix ix_U (pv 2) pe_int (fun _ _ => rfl)) (pa_cons (pe_ix ix_U (pv 2) pe_int (fun _ _ => rfl)) (pa_cons (pv 4) (pa_cons (pe_ix ix_U (pv 1) pe_int (fun _ _ => rfl)) pa_nil)))))) (ge_call (ok_l_take T) hgu (hr.mono (by decide)) rfl T.g_l_take T.k_l_take T.b_l_take .nil (fun _ => pass_takes (takes_of rfl rfl rfl rfl)) (pa_cons (pv 0) (pa_cons pe_int pa_nil))) (fun _ _ => rfl)))
 (pss_one (ps_expr (pe_bm PySem.F.plainAttrs_list PySem.F.slot_list_append PySem.F.type_list_append mt_append (pv 3) (pa_cons (ge_call (ok_l_parts T) hgu (hr.mono (by decide)) rfl T.g_l_parts T.k_l_parts T.b_l_parts .nil (fun _ => pass_takes (takes_of rfl rfl rfl rfl)) (pa_cons (pv 0) (pa_cons (pv 4) (pa_cons (pv 5) pa_nil)))) pa_nil))))))
 (pss_one (ps_ret (pv 3))))))), ?_⟩)
  · obtain ⟨b, R, D, x, y, z, n, rfl, _⟩ := h
    rfl
  · obtain ⟨b, R, D, x, y, z, n, rfl, hI, hb, hn, go⟩ := h
    wtm_at "go"
    wtm_at "sn"
    refine lnames_use hI hb (by omega) (by decide) (by decide) (fun pn ys x1 y1 z1 n1 H1 D1 hI1 ex1 bo1 hn1 en lys hys dys => ?_)
    wtm_at "sn"
    refine lnames_use hI1 bo1 (by omega) (by decide) (by decide) (fun pk ks x2 y2 z2 n2 H2 D2 hI2 ex2 bo2 hn2 ek lks hks _ => ?_)
    have en2 := ex2 _ _ en
    have lys2 : (ys.map V.str).length = 12 := by rw [List.length_map]; omega
    have lks2 : (ks.map V.str).length = 3 := by rw [List.length_map]; omega
    wtm_at "sn"
    rename_i fd H3 hI3 tk x4 y4 z4 H4 hI4 bo4 tk0 tk1
    refine RSl.lst (hI4.dat en2) ?_
    wtm_at "sn"
    rename_i pt H5 D5 hI5 x5 et
    obtain ⟨m, rfl⟩ := Int.eq_ofNat_of_zero_le tk0
    rw [cutV_to, ← List.map_take] at et
    have en5 := x5 _ _ en2
    have ek5 := x5 _ _ ek
    have ml : m ≤ 12 := by omega
    have ysn := dys (by decide)
    refine for_lst (xs := (ys.take m).map V.str) (fun i σ R' D' => ∃ (xs : List V) (us : List Srt) (c4 c5 : Option V) (x y z : Int) (n' : Nat), σ = [some (.ref b), some (.ref pn), some (.ref pk), some (.ref fd), c4, c5] ∧ R' = (b, bx x y z) :: (fd, .lst xs) :: R ∧ BoxOk n' x y z ∧ n' ≤ n2 + 1 + 10 * i ∧ Ex D5 D' ∧ Paired (PartsAt D') xs us ∧ us.map (·.nm) = ys.take i ∧ ∀ u ∈ us, u.Ok) hI5 ⟨[], [], _, _, _, _, _, _, rfl, rfl, bo4, by omega, Ex.refl _, .nil, rfl, all_n⟩ (fun i σ R' D' q => ?_) (fun i v σ R' D' H' hv hI' q => ?_) (fun σ R' D' H' hI' q => ?_)
    · obtain ⟨_, _, _, _, _, _, _, _, _, _, _, _, x, _⟩ := q
      exact x _ _ et
    · obtain ⟨xs, us, c4, c5, x6, y6, z6, n6, rfl, rfl, bo6, hn6, xq, pus, enm, oks⟩ := q
      rw [List.getElem?_map] at hv
      obtain ⟨nm, hnm, rfl⟩ := Option.map_eq_some_iff.mp hv
      have hi : i < 12 := by
        have := (List.getElem?_eq_some_iff.mp hnm).1
        rw [List.length_take] at this
        omega
      have hny : ys[i]? = some nm := by
        rw [List.getElem?_take] at hnm
        split at hnm
        · exact hnm
        · cases hnm
      have hnn := hys nm (List.mem_of_getElem? hny)
      have enq := xq _ _ en5
      have ekq := xq _ _ ek5
      have pl := pus.length
      have ul : us.length = i := by
        have := congrArg List.length enm
        rw [List.length_map, List.length_take] at this
        omega
      wtm_at "sn"
      refine RIx.strI (ys := ks) (hI'.dat ekq) (by decide) (by omega) (fun k0 hk0 _ => ?_)
      wtm_at "sn"
      refine RIx.strI (ys := ks) (hI'.dat ekq) (by decide) (by omega) (fun k1 hk1 _ => ?_)
      wtm_at "sn"
      refine RIx.strI (ys := ks) (hI'.dat ekq) (by decide) (by omega) (fun k2 hk2 _ => ?_)
      wtm_at "sn"
      refine RIx.strI (ys := ys) (hI'.dat enq) (by decide) (by omega) (fun k4 hk4 _ => ?_)
      wtm_at "sn"
      rename_i pc H7 D7 hI7 x7 ec dd x8 y8 z8 H8 hI8 bo8 dd0 dd1
      refine RIx.pick (P := fun v => ∃ y, v = .str y ∧ Nm y) (hI8.dat ec) (all_c ⟨_, rfl, hks _ hk0⟩ (all_c ⟨_, rfl, hks _ hk1⟩ (all_c ⟨_, rfl, hks _ hk2⟩ (all_c ⟨_, rfl, hnn⟩ (all_c ⟨_, rfl, hys _ hk4⟩ all_n))))) dd0 (by simpa using dd1) (fun v hv => ?_)
      obtain ⟨kn, rfl, hkn⟩ := hv
      wtm_at "sn"
      refine lparts_use hI8 bo8 (by omega) hnn hkn (fun pp s x9 y9 z9 n9 H9 D9 hI9 ex9 bo9 hn9 ep ok es1 es2 => ?_)
      wtm_at "sn"
      rename_i H10 hI10
      have xall := x7.trans ex9
      have hI11 : HI H10 ((b, bx x9 y9 z9) :: (fd, .lst (xs ++ [.ref pp])) :: R) D9 := by first | exact hI10 | exact hI10.swap
      refine ⟨_, _, hI11, xs ++ [.ref pp], us ++ [s], _, _, _, _, _, _, rfl, rfl, bo9, by omega, xq.trans xall, paired_snoc ⟨pp, rfl, ep⟩ (paired_mono (fun _ _ h => h.mono xall) pus), ?_, fun u hu => ?_⟩
      · rw [List.map_append, enm, take_more hny]
        show _ ++ [s.nm] = _
        rw [es1]
      · rcases List.mem_append.mp hu with h | h
        · exact oks u h
        · rw [List.mem_singleton.mp h]
          exact ok
    · obtain ⟨xs, us, c4, c5, x6, y6, z6, n6, rfl, rfl, bo6, hn6, xq, pus, enm, oks⟩ := q
      have ll : ((ys.take m).map V.str).length ≤ 12 := by
        rw [List.length_map, List.length_take]
        omega
      have ul : us.length ≤ 12 := by
        have := congrArg List.length enm
        rw [List.length_map, List.length_take] at this
        omega
      obtain ⟨DF, hF, xF, eF⟩ := hI'.swap.fr1
      wtm_at "sn"
      exact go fd xs us _ _ _ _ _ _ hF (ex1.trans (ex2.trans (x5.trans (xq.trans xF)))) bo6 (by omega) eF (paired_mono (fun _ _ h => h.mono xF) pus) ⟨oks, by rw [enm]; exact ysn.sublist (List.take_sublist _ _), ul⟩
theorem ixN_of {n : Nat} {k : Int} {j : Nat} (h : k = (j : Int)) (hj : j < n) : ixN n k = some j := by
  rw [h]
  unfold ixN
  rw [if_pos (by omega), if_pos (by omega), Int.toNat_natCast]
theorem erase_map {α β : Type} (f : α → β) : ∀ (l : List α) (i : Nat), (l.map f).eraseIdx i = (l.eraseIdx i).map f
  | [], _ => rfl
  | a :: l, 0 => rfl
  | a :: l, i + 1 => by
    show f a :: (l.map f).eraseIdx i = f a :: (l.eraseIdx i).map f
    rw [erase_map f l i]
/-- cells of rows -/
def rcs (ps : List (Addr × Srt)) : Cells := ps.map fun q => (q.1, HO.lst q.2.l)
theorem rcs_lcs {ps : List (Addr × Srt)} : rcs ps = lcs (ps.map fun q => (q.1, q.2.l)) := by
  unfold rcs lcs
  rw [List.map_map]
  rfl
theorem rcs_mem {ps : List (Addr × Srt)} {q : Addr × Srt} (h : q ∈ ps) : ((q.1, HO.lst q.2.l) : Addr × HO) ∈ rcs ps := List.mem_map.mpr ⟨q, h, rfl⟩
theorem HI.frRows {H : Hp} {ps : List (Addr × Srt)} {R : Cells} {D : Hp} (h : HI H (rcs ps ++ R) D) : ∃ D', HI H R D' ∧ Ex D D' ∧ ∀ q ∈ ps, D' q.1 = some (.lst q.2.l) := by
  rw [rcs_lcs] at h
  obtain ⟨D', h', x, f⟩ := h.frAll
  exact ⟨D', h', x, fun q hq => f (q.1, q.2.l) (List.mem_map.mpr ⟨q, hq, rfl⟩)⟩
theorem paired_rows {D : Hp} {ps : List (Addr × Srt)} (h : ∀ q ∈ ps, D q.1 = some (.lst q.2.l)) : Paired (PartsAt D) (ps.map fun q => .ref q.1) (ps.map (·.2)) := by
  induction ps with
  | nil => exact .nil
  | cons q ps ih => exact .cons ⟨q.1, rfl, h q (List.mem_cons_self ..)⟩ (ih fun r hr => h r (List.mem_cons_of_mem _ hr))
def spLOther : Sp := fun vs H Q _ => ∃ (b p : Addr) (xs : List V) (us : List Srt) (R : Cells) (D : Hp) (x y z : Int) (n : Nat), vs = [.ref b, .ref p] ∧ HI H ((b, bx x y z) :: R) D ∧ BoxOk n x y z ∧ n + 300 < 1000000 ∧ D p = some (.lst xs) ∧ Paired (PartsAt D) xs us ∧ RwsOk us ∧
  ∀ (q : Addr) (ys : List V) (ws : List Srt) x' y' z' n' H' D', HI H' ((b, bx x' y' z') :: R) D' → Ex D D' → BoxOk n' x' y' z' → n' ≤ n + 30 → D' q = some (.lst ys) → Paired (PartsAt D') ys ws → RwsOk ws → Q (.ref q) H'
set_option maxHeartbeats 2000000 in
theorem ok_l_other {P : Program} {w : World} {K : PySem.W.Frag} {mg : Str → Option Value} {base : Heap} (T : Tx K mg) : FnG P w K mg base 3 (a_l_other K) ["box", "rows"] spLOther := by
  refine T.f_l_other.ok sc_l_other (fun vs H Q E h => ?_) (fun cdv A outer s H vs Q E hgu hr h => ⟨_, (pss_cons (ps_setLc (i := 2) (own := [("row", 6)]) rfl sc_l_other.nd rfl rfl (sw_true rfl rfl rfl (by decide +kernel)) (pi_list (pv 1)) (blkOk_by (own := [("row", 6)]) (N := ["box", "rows", "found", "way", "at", "to", "row"]) (sc := defScope s_l_other) (by decide +kernel)) (fun _ _ _ _ _ => (pg_name (i := 6) sc_l_other.nd rfl (by first | exact Or.inl rfl | exact Or.inr rfl))) (fun _ _ _ _ _ => pts_nil) (fun _ _ _ _ _ => (pe_callTy call_listUM (by rfl) T.n_list boot_list (pa_cons (pv 6) pa_nil))))
 (pss_cons (ps_set (i := 3) sc_l_other.nd rfl (Or.inl rfl) (ge_call (ok_l_take T) hgu (hr.mono (by decide)) rfl T.g_l_take T.k_l_take T.b_l_take .nil (fun _ => pass_takes (takes_of rfl rfl rfl rfl)) (pa_cons (pv 0) (pa_cons pe_int pa_nil))))
 (pss_cons (ps_if (PW.pt (pw_or (pt_cmpR (op_eqI hr.units) (pv 2) (pe_lst pa_nil) (nomark _)) (pw_or1 (pt_cmpR (op_eqU hr.units) (pv 3) pe_int (nomark _))))) (pss_one (ps_ret (pv 2))) pss_nil)
 (pss_cons (ps_par (i := 4) (j := 5) (by rfl) sc_l_other.nd rfl rfl (by decide) rfl rfl (pa_cons (ge_call (ok_l_take T) hgu (hr.mono (by decide)) rfl T.g_l_take T.k_l_take T.b_l_take .nil (fun _ => pass_takes (takes_of rfl rfl rfl rfl)) (pa_cons (pv 0) (pa_cons (pe_callB (call_lenU) (by rfl) T.n_len boot_len (pa_cons (pv 2) pa_nil)) pa_nil))) (pa_cons (ge_call (ok_l_take T) hgu (hr.mono (by decide)) rfl T.g_l_take T.k_l_take T.b_l_take .nil (fun _ => pass_takes (takes_of rfl rfl rfl rfl)) (pa_cons (pv 0) (pa_cons (pe_callB (call_lenU) (by rfl) T.n_len boot_len (pa_cons (pv 2) pa_nil)) pa_nil))) pa_nil)) (by rfl))
 (pss_cons (ps_if (pt_cmpR (op_eqU hr.units) (pv 3) pe_int (nomark _)) (pss_cons (ps_asg (pe_ix ix_U (pe_lst (pa_cons (pe_ix ix_U (pe_ix ix_U (pv 2) (pv 4) (fun _ _ => rfl)) pe_int (fun _ _ => rfl)) (pa_cons pe_str (pa_cons (pe_ix ix_U (pe_ix ix_U (pv 2) (pv 5) (fun _ _ => rfl)) pe_int (fun _ _ => rfl)) pa_nil)))) (ge_call (ok_l_take T) hgu (hr.mono (by decide)) rfl T.g_l_take T.k_l_take T.b_l_take .nil (fun _ => pass_takes (takes_of rfl rfl rfl rfl)) (pa_cons (pv 0) (pa_cons pe_int pa_nil))) (fun _ _ => rfl)) (pg_sub (pe_ix ix_U (pv 2) (pv 4) (fun _ _ => rfl)) pe_int set_list))
 (pss_one (ps_asg (ge_call (ok_l_bound T) hgu (hr.mono (by decide)) rfl T.g_l_bound T.k_l_bound T.b_l_bound .nil (fun _ => pass_takes (takes_of rfl rfl rfl rfl)) (pa_cons (pv 0) (pa_cons pe_int (pa_cons pe_int pa_nil)))) (pg_sub (pe_ix ix_U (pv 2) (pv 4) (fun _ _ => rfl)) pe_int set_list)))) (pss_one (ps_if (pt_cmpR (op_eqU hr.units) (pv 3) pe_int (nomark _)) (pss_one (ps_expr (pe_bm PySem.F.plainAttrs_list PySem.F.slot_list_pop PySem.F.type_list_pop mt_popAt (pv 2) (pa_cons (pv 4) pa_nil)))) (pss_one (ps_asg (pe_tup (pa_cons (pe_ix ix_U (pv 2) (pv 5) (fun _ _ => rfl)) (pa_cons (pe_ix ix_U (pv 2) (pv 4) (fun _ _ => rfl)) pa_nil))) (pg_tup (by rfl) (pgs_cons (pg_sub (pv 2) (pv 4) set_list) (pgs_cons (pg_sub (pv 2) (pv 5) set_list) pgs_nil))))))))
 (pss_one (ps_ret (pv 2)))))))), ?_⟩)
  · obtain ⟨b, p, xs, us, R, D, x, y, z, n, rfl, _⟩ := h
    rfl
  · obtain ⟨b, p, xs, us, R, D, x, y, z, n, rfl, hI, hb, hn, ep, pus, rok, go⟩ := h
    have xl := pus.length
    have ul := rok.l
    wtm_at "go"
    wtm_at "sn"
    refine lc_lst (xs := xs) (fun j acc R' D' => ∃ ps : List (Addr × Srt), R' = rcs ps ++ (b, bx x y z) :: R ∧ D' = D ∧ acc = ps.reverse.map (fun q => V.ref q.1) ∧ ps.reverse.map (·.2) = us.take j) hI ⟨[], rfl, rfl, rfl, rfl⟩ (fun j acc R' D' q => ?_) (fun L j acc v R' D' H' hv hI' q hl => ?_) (fun L acc R' D' H' hI' q hl => ?_)
    · obtain ⟨_, _, rfl, _⟩ := q
      exact ep
    · obtain ⟨ps, rfl, hD, rfl, eps⟩ := q
      rw [hD] at hI'
      obtain ⟨s, hs, pr, rfl, epr⟩ := paired_get pus hv
      have hj := (List.getElem?_eq_some_iff.mp hv).1
      wtm_at "sn"
      rename_i pn H1 hI1
      refine le_mk (R := rcs ((pn, s) :: ps) ++ (b, bx x y z) :: R) hI1.swap ⟨(pn, s) :: ps, rfl, rfl, ?_, ?_⟩ hl (by omega)
      · rw [List.reverse_cons, List.map_append]
        rfl
      · rw [List.reverse_cons, List.map_append, eps, take_more hs]
        rfl
    · obtain ⟨ps, rfl, hD, rfl, eps⟩ := q
      rw [hD] at hI'
      rw [List.take_of_length_le (by omega)] at eps
      have hI2 : HI H' ((b, bx x y z) :: (L, .lst (ps.reverse.map fun q => .ref q.1)) :: (rcs ps ++ R)) D := HI.front (A := (L, _) :: rcs ps) hI'
      have hperm : (rcs ps ++ R).Perm (rcs ps.reverse ++ R) := by
        unfold rcs
        exact ((List.reverse_perm ps).symm.map _).append_right R
      have hI3 : HI H' ((b, bx x y z) :: (L, .lst (ps.reverse.map fun q => .ref q.1)) :: (rcs ps.reverse ++ R)) D := hI2.perm ((hperm.cons _).cons _)
      have pl : ps.reverse.length = us.length := by
        rw [← eps, List.length_map]
      generalize ps.reverse = qs at hI3 eps pl
      clear hI2 hperm hI'
      -- behind it all
      have fin : ∀ (rs cs : List (Addr × Srt)) x' y' z' n' H' D', HI H' ((b, bx x' y' z') :: (L, .lst (rs.map fun q => .ref q.1)) :: (rcs cs ++ R)) D' → Ex D D' → BoxOk n' x' y' z' → n' ≤ n + 30 → (∀ q ∈ rs, q ∈ cs) → RwsOk (rs.map (·.2)) → Q (.ref L) H' := fun rs cs x' y' z' n' H' D' h x0 bo' hn' sub ok => by
        obtain ⟨D1, h1, x1, e1⟩ := h.swap.fr1
        obtain ⟨D2, h2, x2, f2⟩ := HI.frRows (ps := cs) (R := (b, bx x' y' z') :: R) (HI.back (A := rcs cs) h1)
        exact go L _ (rs.map (·.2)) _ _ _ _ _ _ h2 (x0.trans (x1.trans x2)) bo' hn' (x2 _ _ e1) (paired_rows fun q hq => f2 q (sub q hq)) ok
      wtm_at "sn"
      rename_i way x4 y4 z4 H4 hI4 bo4 way0 way1 pe H5 D5 hI5 x5 e5
      have ql : (qs.map fun q => V.ref q.1).length = qs.length := List.length_map ..
      have rok' : RwsOk (qs.map (·.2)) := by rw [eps]; exact rok
      by_cases hq : qs = []
      · subst hq
        refine .same (hI5.get (by wtm_at "mem")) (hI5.dat e5) all_n ?_
        wtm_at "sn"
        exact fin [] [] _ _ _ _ _ _ hI5 x5 bo4 (by omega) (fun q h => h) rok'
      refine .len (hI5.get (by wtm_at "mem")) (hI5.dat e5) (by rw [ql]; simpa using hq) ?_
      have hpos : 0 < qs.length := List.length_pos_iff.mpr hq
      wtm_at "sn"
      refine if_dec (fun hw0 => ?_) (fun hw0 => ?_)
      · wtm_at "sn"
        exact fin qs qs _ _ _ _ _ _ hI5 x5 bo4 (by omega) (fun q h => h) rok'
      wtm_at "sn"
      rename_i at_ x6 y6 z6 H6 hI6 bo6 at0 at1 to_ x7 y7 z7 H7 hI7 bo7 to0 to1
      obtain ⟨A, rfl⟩ := Int.eq_ofNat_of_zero_le at0
      obtain ⟨B, rfl⟩ := Int.eq_ofNat_of_zero_le to0
      have hA : A < qs.length := by omega
      have hB : B < qs.length := by omega
      obtain ⟨qa, hqa⟩ : ∃ q, qs[A]? = some q := ⟨_, List.getElem?_eq_getElem hA⟩
      obtain ⟨qb, hqb⟩ : ∃ q, qs[B]? = some q := ⟨_, List.getElem?_eq_getElem hB⟩
      have ixa : atI (qs.map fun q => V.ref q.1) (A : Int) = some (.ref qa.1) := atI_mapI at0 (by rw [Int.toNat_natCast]; exact hqa)
      have ixb : atI (qs.map fun q => V.ref q.1) (B : Int) = some (.ref qb.1) := atI_mapI to0 (by rw [Int.toNat_natCast]; exact hqb)
      have oka : qa.2.Ok := rok'.ok _ (List.mem_map.mpr ⟨qa, List.mem_of_getElem? hqa, rfl⟩)
      have okb : qb.2.Ok := rok'.ok _ (List.mem_map.mpr ⟨qb, List.mem_of_getElem? hqb, rfl⟩)
      have ea : H7 qa.1 = some (.lst qa.2.l) := hI7.get (List.mem_cons_of_mem _ (List.mem_cons_of_mem _ (List.mem_append_left _ (rcs_mem (List.mem_of_getElem? hqa)))))
      have eb : H7 qb.1 = some (.lst qb.2.l) := hI7.get (List.mem_cons_of_mem _ (List.mem_cons_of_mem _ (List.mem_append_left _ (rcs_mem (List.mem_of_getElem? hqb)))))
      have eL : H7 L = some (.lst (qs.map fun q => .ref q.1)) := hI7.get (by wtm_at "mem")
      wtm_at "sn"
      refine if_dec (fun hw1 => ?_) (fun hw1 => ?_)
      · wtm_at "sn"
        refine RIx.l eL ixa ?_
        wtm_at "sn"
        refine RIx.l eL ixb ?_
        wtm_at "sn"
        rename_i pl8 H8 D8 hI8 x8 el8 dd x9 y9 z9 H9 hI9 bo9 dd0 dd1
        refine RIx.pick (P := fun v => ∃ y, v = .str y ∧ Nm y) (hI9.dat el8) (all_c ⟨_, rfl, oka.kn⟩ (all_c ⟨_, rfl, nm_of (by decide +kernel)⟩ (all_c ⟨_, rfl, okb.kn⟩ all_n))) dd0 (by simpa using dd1) (fun v hv => ?_)
        obtain ⟨kn, rfl, hkn⟩ := hv
        wtm_at "sn"
        refine RIx.l (hI9.get (by wtm_at "mem")) ixa ?_
        wtm_at "sn"
        have eqs : qs = qs.take A ++ qa :: qs.drop (A + 1) := by
          obtain ⟨h1, h2⟩ := List.getElem?_eq_some_iff.mp hqa
          rw [← h2, ← List.drop_eq_getElem_cons h1, List.take_append_drop]
        have e2 : ∀ u : Srt, rcs (qs.set A (qa.1, u)) = rcs (qs.take A) ++ (qa.1, HO.lst u.l) :: rcs (qs.drop (A + 1)) := fun u => by
          rw [List.set_eq_take_append_cons_drop, if_pos hA]
          unfold rcs
          rw [List.map_append, List.map_cons]
        have eself : qs.set A (qa.1, qa.2) = qs := by
          obtain ⟨h1, h2⟩ := List.getElem?_eq_some_iff.mp hqa
          rw [← h2]
          exact List.set_getElem_self h1
        have e3 : rcs qs = rcs (qs.take A) ++ (qa.1, HO.lst qa.2.l) :: rcs (qs.drop (A + 1)) := by
          have := e2 qa.2
          rw [eself] at this
          exact this
        have hI10 : HI H9 (((b, bx x9 y9 z9) :: (L, .lst (qs.map fun q => .ref q.1)) :: rcs (qs.take A)) ++ (qa.1, HO.lst qa.2.l) :: (rcs (qs.drop (A + 1)) ++ R)) D8 := by
          have h := hI9
          rw [e3, List.append_assoc] at h
          exact h
        refine setL (hI10.get (List.mem_append_right _ (List.mem_cons_self ..))) (by rfl : ixN 5 1 = some 1) ?_
        have hI11 := hI10.setM (u := HO.lst [.str qa.2.nm, .str kn, .int qa.2.n, .int qa.2.k, .int qa.2.b])
        have hI12 : HI (upd H9 qa.1 (.lst (qa.2.l.set 1 (.str kn)))) ((b, bx x9 y9 z9) :: ((L, .lst (qs.map fun q => .ref q.1)) :: (rcs (qs.take A) ++ (qa.1, HO.lst [.str qa.2.nm, .str kn, .int qa.2.n, .int qa.2.k, .int qa.2.b]) :: (rcs (qs.drop (A + 1)) ++ R)))) D8 := hI11
        generalize upd H9 qa.1 (.lst (qa.2.l.set 1 (.str kn))) = H12 at hI12 ⊢
        wtm_at "sn"
        refine bound_now hI12 bo9 (by omega) (by decide) (by decide) (by decide) (fun i1 x13 y13 z13 n13 H13 D13 hI13 ex13 bo13 hn13 i10 i11 => ?_)
        wtm_at "sn"
        refine RIx.l (hI13.get (by wtm_at "mem")) ixa ?_
        wtm_at "sn"
        have hI14 : HI H13 (((b, bx x13 y13 z13) :: (L, .lst (qs.map fun q => .ref q.1)) :: rcs (qs.take A)) ++ (qa.1, HO.lst [.str qa.2.nm, .str kn, .int qa.2.n, .int qa.2.k, .int qa.2.b]) :: (rcs (qs.drop (A + 1)) ++ R)) D13 := hI13
        refine setL (hI14.get (List.mem_append_right _ (List.mem_cons_self ..))) (by rfl : ixN 5 2 = some 2) ?_
        have hI15 := hI14.setM (u := HO.lst (⟨qa.2.nm, kn, i1, qa.2.k, qa.2.b⟩ : Srt).l)
        have hI16 : HI (upd H13 qa.1 (.lst ([V.str qa.2.nm, .str kn, .int qa.2.n, .int qa.2.k, .int qa.2.b].set 2 (.int i1)))) ((b, bx x13 y13 z13) :: (L, .lst ((qs.set A (qa.1, (⟨qa.2.nm, kn, i1, qa.2.k, qa.2.b⟩ : Srt))).map fun q => .ref q.1)) :: (rcs (qs.set A (qa.1, (⟨qa.2.nm, kn, i1, qa.2.k, qa.2.b⟩ : Srt))) ++ R)) D13 := by
          have em : ((qs.set A (qa.1, (⟨qa.2.nm, kn, i1, qa.2.k, qa.2.b⟩ : Srt))).map fun q => V.ref q.1) = qs.map fun q => V.ref q.1 := by
            have h1 := List.map_set (f := fun q : Addr × Srt => V.ref q.1) (l := qs) (i := A) (a := (qa.1, qa.2))
            rw [eself] at h1
            rw [List.map_set]
            exact h1.symm
          rw [e2, List.append_assoc, em]
          exact hI15
        wtm_at "sn"
        refine fin _ _ _ _ _ _ _ _ hI16 (x5.trans (x8.trans ex13)) bo13 (by omega) (fun q h => h) ⟨fun u hu => ?_, ?_, by rw [List.length_map, List.length_set]; omega⟩
        · obtain ⟨q, hq', rfl⟩ := List.mem_map.mp hu
          rcases List.mem_or_eq_of_mem_set hq' with h | rfl
          · exact rok'.ok _ (List.mem_map.mpr ⟨q, h, rfl⟩)
          · exact ⟨oka.nm, hkn, i10, i11, oka.k0, oka.k1, oka.b0, oka.b1⟩
        · have e : ((qs.set A (qa.1, (⟨qa.2.nm, kn, i1, qa.2.k, qa.2.b⟩ : Srt))).map (·.2)).map (·.nm) = (qs.map (·.2)).map (·.nm) := by
            rw [List.map_map, List.map_map]
            have h1 := List.map_set (f := fun q : Addr × Srt => q.2.nm) (l := qs) (i := A) (a := (qa.1, qa.2))
            rw [eself] at h1
            have h2 := List.map_set (f := fun q : Addr × Srt => q.2.nm) (l := qs) (i := A) (a := (qa.1, (⟨qa.2.nm, kn, i1, qa.2.k, qa.2.b⟩ : Srt)))
            exact h2.trans h1.symm
          rw [e]
          exact rok'.nd
      · wtm_at "sn"
        refine if_dec (fun hw2 => ?_) (fun hw2 => ?_)
        · wtm_at "sn"
          refine pop_now hI7.swap at0 (by omega) (by omega) (fun yv H8 hy hI8 => ?_)
          rw [Int.toNat_natCast, erase_map] at hI8
          wtm_at "sn"
          refine fin (qs.eraseIdx A) qs _ _ _ _ _ _ hI8.swap x5 bo7 (by omega) (fun q h => List.mem_of_mem_eraseIdx h) ⟨fun u hu => ?_, ?_, ?_⟩
          · obtain ⟨q, hq', rfl⟩ := List.mem_map.mp hu
            exact rok'.ok _ (List.mem_map.mpr ⟨q, List.mem_of_mem_eraseIdx hq', rfl⟩)
          · exact rok'.nd.sublist (((List.eraseIdx_sublist ..).map _).map _)
          · have := (List.eraseIdx_sublist qs A).length_le
            rw [List.length_map]
            omega
        · wtm_at "sn"
          refine RIx.l eL ixb ?_
          wtm_at "sn"
          refine RIx.l eL ixa ?_
          wtm_at "sn"
          rename_i pt H8 D8 hI8 x8 et
          refine set_c2 hI8 (ixN_of rfl (by omega)) (fun H9 hI9 => ?_)
          rw [show (qs.map fun q => V.ref q.1).set A (V.ref qb.1) = (qs.set A qb).map fun q => V.ref q.1 by rw [List.map_set]] at hI9
          wtm_at "sn"
          refine set_c2 hI9 (ixN_of rfl (by rw [List.length_map, List.length_set]; omega)) (fun H10 hI10 => ?_)
          rw [show ((qs.set A qb).map fun q => V.ref q.1).set B (V.ref qa.1) = ((qs.set A qb).set B qa).map fun q => V.ref q.1 by rw [List.map_set (l := qs.set A qb)]] at hI10
          wtm_at "sn"
          have pm : ((qs.set A qb).set B qa).Perm qs := by
            obtain ⟨a1, a2⟩ := List.getElem?_eq_some_iff.mp hqa
            obtain ⟨b1, b2⟩ := List.getElem?_eq_some_iff.mp hqb
            have := List.set_set_perm a1 b1
            rw [a2, b2] at this
            exact this
          refine fin ((qs.set A qb).set B qa) qs _ _ _ _ _ _ hI10 (x5.trans x8) bo7 (by omega) (fun q h => pm.mem_iff.mp h) ⟨fun u hu => ?_, ?_, ?_⟩
          · obtain ⟨q, hq', rfl⟩ := List.mem_map.mp hu
            exact rok'.ok _ (List.mem_map.mpr ⟨q, pm.mem_iff.mp hq', rfl⟩)
          · exact (((pm.map (·.2)).map (·.nm)).nodup_iff).mpr rok'.nd
          · have := pm.length_eq
            rw [List.length_map]
            omega
theorem lother_use {b p : Addr} {xs : List V} {us : List Srt} {R : Cells} {D H : Hp} {x y z : Int} {n : Nat} {Q : VK} {E : XK} (hI : HI H ((b, bx x y z) :: R) D) (bo : BoxOk n x y z) (hn : n + 300 < 1000000) (ep : D p = some (.lst xs)) (pus : Paired (PartsAt D) xs us) (rok : RwsOk us)
  (k : ∀ (q : Addr) (ys : List V) (ws : List Srt) x' y' z' n' H' D', HI H' ((b, bx x' y' z') :: R) D' → Ex D D' → BoxOk n' x' y' z' → n' ≤ n + 30 → D' q = some (.lst ys) → Paired (PartsAt D') ys ws → RwsOk ws → Q (.ref q) H') : spLOther [.ref b, .ref p] H Q E := ⟨b, p, xs, us, R, D, x, y, z, n, rfl, hI, bo, hn, ep, pus, rok, k⟩
/-- Sorts of rows -/
def spLMade (K : PySem.W.Frag) : Sp := fun vs H Q _ => ∃ (b p : Addr) (xs : List V) (us : List Srt) (R : Cells) (D : Hp) (x y z : Int) (n : Nat), vs = [.ref b, .ref p] ∧ HI H ((b, bx x y z) :: R) D ∧ BoxOk n x y z ∧ n + 100 < 1000000 ∧ D p = some (.lst xs) ∧ Paired (PartsAt D) xs us ∧ RwsOk us ∧
  ∀ (a : Addr) (ss : List (Addr × Srt)) x' y' z' H' D', HI H' ((b, bx x' y' z') :: R) D' → Ex D D' → BoxOk (n + 1) x' y' z' → IsSs K D' a ss → ss.map (·.2) = us → Q (.ref a) H'
set_option maxHeartbeats 2000000 in
theorem ok_l_made {P : Program} {w : World} {K : PySem.W.Frag} {mg : Str → Option Value} {base : Heap} (T : Tx K mg) : FnG P w K mg base 7 (a_l_made K) ["box", "rows"] (spLMade K) := by
  refine T.f_l_made.ok sc_l_made (fun vs H Q E h => ?_) (fun cdv A outer s H vs Q E hgu hr h => ⟨_, (pss_cons (ps_setLc (i := 2) (own := [("row", 4)]) rfl sc_l_made.nd rfl rfl (sw_true rfl rfl rfl (by decide +kernel)) (pi_list (pv 1)) (blkOk_by (own := [("row", 4)]) (N := ["box", "rows", "some", "made", "row"]) (sc := defScope s_l_made) (by decide +kernel)) (fun _ _ _ _ _ => (pg_name (i := 4) sc_l_made.nd rfl (by first | exact Or.inl rfl | exact Or.inr rfl))) (fun _ _ _ _ _ => pts_nil) (fun _ _ _ _ _ => (ge_makeN T.mk_Sort (ok_Sort_init T) hgu (hr.mono (by decide)) rfl T.g_Sort T.kb_Sort_init_6 (fun _ => pass_none) (pa_cons (pe_ix ix_U (pv 4) pe_int (fun _ _ => rfl)) (pa_cons (pe_ix ix_U (pv 4) pe_int (fun _ _ => rfl)) (pa_cons (pe_ix ix_U (pv 4) pe_int (fun _ _ => rfl)) (pa_cons (pe_ix ix_U (pv 4) pe_int (fun _ _ => rfl)) (pa_cons (pe_ix ix_U (pv 4) pe_int (fun _ _ => rfl)) pa_nil))))) pk_nil)))
 (pss_cons (ps_if (pt_cmpR (op_eqU hr.units) (ge_call (ok_l_take T) hgu (hr.mono (by decide)) rfl T.g_l_take T.k_l_take T.b_l_take .nil (fun _ => pass_takes (takes_of rfl rfl rfl rfl)) (pa_cons (pv 0) (pa_cons pe_int pa_nil))) pe_int (nomark _)) (pss_one (ps_ret (ge_makeN T.mk_Sorts (ok_Sorts_init T) hgu (hr.mono (by decide)) rfl T.g_Sorts T.kb_Sorts_init_2 (fun _ => pass_takes (takes_of rfl rfl rfl rfl)) (pa_cons (pe_callTy call_tupU (by rfl) T.n_tuple boot_tuple (pa_cons (pv 2) pa_nil)) pa_nil) pk_nil))) pss_nil)
 (pss_cons (ps_set (i := 3) sc_l_made.nd rfl (Or.inl rfl) (ge_makeN T.mk_Sorts (ok_Sorts_init T) hgu (hr.mono (by decide)) rfl T.g_Sorts T.kb_Sorts_init_2 (fun _ => pass_takes (takes_of rfl rfl rfl rfl)) (pa_cons (pv 2) pa_nil) pk_nil))
 (pss_cons (ps_expr (pe_bm0 PySem.F.plainAttrs_list PySem.F.slot_list_reverse PySem.F.type_list_reverse mt_reverse (pv 2)))
 (pss_cons (ps_expr (pe_bm PySem.F.plainAttrs_list PySem.F.slot_list_append PySem.F.type_list_append mt_append (pv 2) (pa_cons pe_non pa_nil)))
 (pss_one (ps_ret (pv 3)))))))), ?_⟩)
  · obtain ⟨b, p, xs, us, R, D, x, y, z, n, rfl, _⟩ := h
    rfl
  · obtain ⟨b, p, xs, us, R, D, x, y, z, n, rfl, hI, hb, hn, ep, pus, rok, go⟩ := h
    have xl := pus.length
    have ul := rok.l
    wtm_at "go"
    wtm_at "sn"
    refine lc_lst (xs := xs) (fun j acc R' D' => ∃ ss : List (Addr × Srt), R' = (b, bx x y z) :: R ∧ Ex D D' ∧ acc = ss.map (fun q => V.ref q.1) ∧ ss.map (·.2) = us.take j ∧ ∀ s ∈ ss, IsSrt K D' s.1 s.2) hI ⟨[], rfl, Ex.refl _, rfl, rfl, all_n⟩ (fun j acc R' D' q => ?_) (fun L j acc v R' D' H' hv hI' q hl => ?_) (fun L acc R' D' H' hI' q hl => ?_)
    · obtain ⟨_, _, x, _⟩ := q
      exact x _ _ ep
    · obtain ⟨ss, rfl, xq, rfl, ess, hss⟩ := q
      obtain ⟨s, hs, pr, rfl, epr⟩ := paired_get pus hv
      have hj := (List.getElem?_eq_some_iff.mp hv).1
      have eprq := xq _ _ epr
      have ok := rok.ok s (List.mem_of_getElem? hs)
      wtm_at "sn"
      refine make_good (s := s) (by assumption) ok (fun H2 D2 hI2 x2 is2 => ?_)
      wtm_at "sn"
      rename_i pn _ _ _
      refine le_mk hI2 ⟨ss ++ [(pn, s)], rfl, xq.trans x2, by rw [List.map_append]; rfl, by rw [List.map_append, ess, take_more hs]; rfl, fun t ht => ?_⟩ hl (by omega)
      rcases List.mem_append.mp ht with h | h
      · exact (hss t h).mono x2
      · rw [List.mem_singleton.mp h]
        exact is2
    · obtain ⟨ss, rfl, xq, rfl, ess, hss⟩ := q
      rw [List.take_of_length_le (by omega)] at ess
      have sl : ss.length ≤ 12 := by
        have := congrArg List.length ess
        rw [List.length_map] at this
        omega
      have nd : (ss.map fun s => s.2.nm).Nodup := by
        have h := rok.nd
        rw [← ess, List.map_map] at h
        exact h
      have eL : H' L = some (.lst (ss.map fun q => .ref q.1)) := hI'.get (List.mem_cons_self ..)
      wtm_at "sn"
      rename_i dd x4 y4 z4 H4 hI4 bo4 dd0 dd1
      have hI5 : HI H4 ((b, bx x4 y4 z4) :: (L, .lst (ss.map fun q => .ref q.1)) :: R) D' := by first | exact hI4 | exact hI4.swap
      refine if_dec (fun hd => ?_) (fun hd => ?_)
      · wtm_at "sn"
        rename_i pt H6 D6 hI6 x6 et a da H7 hI7
        refine make_ss hI7 (.t et) (fun s hs => (hss s hs).mono x6) sl nd (fun H8 D8 hI8 x8 ia => ?_)
        wtm_at "sn"
        have hI9 : HI H8 ((b, bx x4 y4 z4) :: (L, .lst (ss.map fun q => .ref q.1)) :: R) D8 := by first | exact hI8 | exact hI8.swap
        exact go a ss _ _ _ _ _ hI9.swap.drop (xq.trans (x6.trans x8)) bo4 ia.is ess
      · wtm_at "sn"
        rename_i a da H7 hI7
        refine make_ss hI7 (.c (by wtm_at "mem")) hss sl nd (fun H8 D8 hI8 x8 ia => ?_)
        wtm_at "sn"
        refine rev_now hI8.swap (fun H9 hI9 => ?_)
        wtm_at "sn"
        refine app_now hI9 (by rw [List.length_reverse, List.length_map]; omega) (fun H10 hI10 => ?_)
        wtm_at "sn"
        exact go a ss _ _ _ _ _ hI10.drop (xq.trans x8) bo4 ia.is ess
theorem lmade_use {K : PySem.W.Frag} {b p : Addr} {xs : List V} {us : List Srt} {R : Cells} {D H : Hp} {x y z : Int} {n : Nat} {Q : VK} {E : XK} (hI : HI H ((b, bx x y z) :: R) D) (bo : BoxOk n x y z) (hn : n + 100 < 1000000) (ep : D p = some (.lst xs)) (pus : Paired (PartsAt D) xs us) (rok : RwsOk us)
  (k : ∀ (a : Addr) (ss : List (Addr × Srt)) x' y' z' H' D', HI H' ((b, bx x' y' z') :: R) D' → Ex D D' → BoxOk (n + 1) x' y' z' → IsSs K D' a ss → ss.map (·.2) = us → Q (.ref a) H') : spLMade K [.ref b, .ref p] H Q E := ⟨b, p, xs, us, R, D, x, y, z, n, rfl, hI, bo, hn, ep, pus, rok, k⟩
/-- the kins, as the law tells them -/
def spLKins : Sp := fun vs H Q _ => ∃ (p : Addr) (xs : List V) (us : List Srt) (R : Cells) (D : Hp), vs = [.ref p] ∧ HI H R D ∧ D p = some (.lst xs) ∧ Paired (PartsAt D) xs us ∧ us.length ≤ 12 ∧
  ∀ q H' D', HI H' R D' → Ex D D' → D' q = some (.lst ((kinsOf (us.map (·.kn))).map V.str)) → Q (.ref q) H'
set_option maxHeartbeats 1000000 in
theorem ok_l_kins {P : Program} {w : World} {K : PySem.W.Frag} {mg : Str → Option Value} {base : Heap} (T : Tx K mg) : FnG P w K mg base 1 (a_l_kins K) ["rows"] spLKins := by
  refine T.f_l_kins.ok sc_l_kins (fun vs H Q E h => ?_) (fun cdv A outer s H vs Q E hgu hr h => ⟨_, (pss_cons (ps_set (i := 1) sc_l_kins.nd rfl (Or.inl rfl) (pe_lstM pa_nil))
 (pss_cons (ps_for (passes_of rfl) rfl (pi_list (pv 0)) (pg_name (i := 2) sc_l_kins.nd rfl (Or.inl rfl)) (pss_one (ps_if (pt_cmpR op_niU (pe_ix ix_U (pv 2) pe_int (fun _ _ => rfl)) (pv 1) (by rfl)) (pss_one (ps_expr (pe_bm PySem.F.plainAttrs_list PySem.F.slot_list_append PySem.F.type_list_append mt_append (pv 1) (pa_cons (pe_ix ix_U (pv 2) pe_int (fun _ _ => rfl)) pa_nil)))) pss_nil)))
 (pss_one (ps_ret (pv 1))))), ?_⟩)
  · obtain ⟨p, xs, us, R, D, rfl, _⟩ := h
    rfl
  · obtain ⟨p, xs, us, R, D, rfl, hI, ep, pus, ul, go⟩ := h
    have xl := pus.length
    wtm_at "go"
    wtm_at "sn"
    rename_i fd H1 hI1
    refine for_lst (xs := xs) (fun i σ R' D' => ∃ c2 : Option V, σ = [some (.ref p), some (.ref fd), c2] ∧ R' = (fd, .lst ((kinsOf ((us.take i).map (·.kn))).map V.str)) :: R ∧ D' = D) hI1 ⟨_, rfl, rfl, rfl⟩ (fun i σ R' D' q => ?_) (fun i v σ R' D' H' hv hI' q => ?_) (fun σ R' D' H' hI' q => ?_)
    · obtain ⟨_, _, _, rfl⟩ := q
      exact ep
    · obtain ⟨c2, rfl, rfl, hD⟩ := q
      rw [hD] at hI'
      obtain ⟨s, hs, pr, rfl, epr⟩ := paired_get pus hv
      have hj := (List.getElem?_eq_some_iff.mp hv).1
      have kl := kinsOf_len (ys := (us.take i).map (·.kn))
      rw [List.length_map, List.length_take] at kl
      have step : kinsOf ((us.take (i + 1)).map (·.kn)) = if s.kn ∈ kinsOf ((us.take i).map (·.kn)) then kinsOf ((us.take i).map (·.kn)) else kinsOf ((us.take i).map (·.kn)) ++ [s.kn] := by
        rw [take_more hs, List.map_append]
        exact kinsOf_snoc
      wtm_at "sn"
      refine rni_lst (hI'.get (List.mem_cons_self ..)) rfl flat_strs ?_
      rw [inV_strs]
      wtm_at "sn"
      by_cases hm : s.kn ∈ kinsOf ((us.take i).map (·.kn))
      · rw [decide_eq_true hm]
        wtm_at "sn"
        refine ⟨_, _, hI', _, rfl, ?_, rfl⟩
        rw [step, if_pos hm]
      · rw [decide_eq_false hm]
        wtm_at "sn"
        refine app_now hI' (by rw [List.length_map]; omega) (fun H2 hI2 => ?_)
        refine ⟨_, _, hI2, _, rfl, ?_, rfl⟩
        rw [step, if_neg hm, List.map_append]
        rfl
    · obtain ⟨c2, rfl, rfl, hD⟩ := q
      rw [hD] at hI'
      rw [List.take_of_length_le (by omega)] at hI'
      obtain ⟨DF, hF, xF, eF⟩ := hI'.fr1
      wtm_at "sn"
      exact go _ _ _ hF xF eF
theorem lkins_use {p : Addr} {xs : List V} {us : List Srt} {R : Cells} {D H : Hp} {Q : VK} {E : XK} (hI : HI H R D) (ep : D p = some (.lst xs)) (pus : Paired (PartsAt D) xs us) (ul : us.length ≤ 12)
  (k : ∀ q H' D', HI H' R D' → Ex D D' → D' q = some (.lst ((kinsOf (us.map (·.kn))).map V.str)) → Q (.ref q) H') : spLKins [.ref p] H Q E := ⟨p, xs, us, R, D, rfl, hI, ep, pus, ul, k⟩
/-- what is told, by its number -/
def askS (us : List Srt) (o : Option Str) (w : Int) : PyData :=
  if w = 0 then .list ((us.map (·.nm)).map PyData.str) else if w = 1 then .list (us.map Srt.d) else if w = 2 then .list ((kinsOf (us.map (·.kn))).map PyData.str) else
  if w = 3 then .list ((us.filter fun u => decide (o = some u.kn)).map Srt.d) else if w = 4 then .tuple (us.map Srt.d) else .int us.length
theorem sslen_use {K : PySem.W.Frag} {a : Addr} {ss : List (Addr × Srt)} {R : Cells} {D H : Hp} {Q : VK} (hI : HI H R D) (ia : IsSs K D a ss) (q : Q (.int ss.length) H) : RLenO (He.ga K "Sorts") (spSsLen K) [.ref a] H Q := by
  obtain ⟨dx, pl, e, _, _, l⟩ := id ia
  exact .o (hI.dat e) ⟨a, ss, R, D, rfl, hI, ia, _, rfl, by omega, by omega, q⟩
def spLAsked (K : PySem.W.Frag) : Sp := fun vs H Q _ => ∃ (a : Addr) (ss : List (Addr × Srt)) (w : Int) (v : V) (o : Option Str) (R : Cells) (D : Hp), vs = [.ref a, .int w, v] ∧ HI H R D ∧ IsSs K D a ss ∧ KinAt K D v o ∧ 0 ≤ w ∧ w ≤ 5 ∧
  ∀ p fv q xs H' D', HI H' ((q, .lst xs) :: R) D' → Ex D D' → D' p = some (.tup [fv, .ref q]) → Rep D' fv (askS (ss.map (·.2)) o w) → xs.length ≤ 12 → Q (.ref p) H'
theorem map_snd {α β γ : Type} {l : List (α × β)} {f : β → γ} : (l.map fun s => f s.2) = (l.map (·.2)).map f := by rw [List.map_map]; rfl
/-- the told of sorts that stand in a cell -/
theorem told_cell {K : PySem.W.Frag} {ss : List (Addr × Srt)} {D : Hp} (h : ∀ s ∈ ss, IsSrt K D s.1 s.2) {D' : Hp} (x : Ex D D') {i : Nat} {s : Addr × Srt} (hs : ss[i]? = some s) : IsSrt K D' s.1 s.2 := (h s (List.mem_of_getElem? hs)).mono x
set_option maxHeartbeats 2000000 in
theorem ok_l_asked {P : Program} {w : World} {K : PySem.W.Frag} {mg : Str → Option Value} {base : Heap} (T : Tx K mg) : FnG P w K mg base 10 (a_l_asked K) ["made", "way", "kin"] (spLAsked K) := by
  refine T.f_l_asked.ok sc_l_asked (fun vs H Q E h => ?_) (fun cdv A outer s H vs Q E hgu hr h => ⟨_, (pss_cons (ps_if (pt_cmpR (op_eqU hr.units) (pv 1) pe_int (nomark _)) (pss_cons (ps_set (i := 3) sc_l_asked.nd rfl (Or.inl rfl) (ge_meth0 (pv 0) T.cl_Sorts T.m_Sorts_names (ok_Sorts_names T) hgu (hr.mono (by decide)) T.b_Sorts_names .nil (fun _ => pass_takes (takes_of rfl rfl rfl rfl))))
 (pss_one (ps_ret (pe_tup (pa_cons (pe_callTy call_listU (by rfl) T.n_list boot_list (pa_cons (pv 3) pa_nil)) (pa_cons (pv 3) pa_nil)))))) pss_nil)
 (pss_cons (ps_if (pt_cmpR (op_eqU hr.units) (pv 1) pe_int (nomark _)) (pss_cons (ps_set (i := 3) sc_l_asked.nd rfl (Or.inl rfl) (ge_meth0 (pv 0) T.cl_Sorts T.m_Sorts_all_sorts (ok_Sorts_all_sorts T) hgu (hr.mono (by decide)) T.b_Sorts_all_sorts .nil (fun _ => pass_takes (takes_of rfl rfl rfl rfl))))
 (pss_one (ps_ret (pe_tup (pa_cons (pe_lc (own := [("one", 4)]) rfl sc_l_asked.nd (pi_list (pv 3)) (blkOk_by (own := [("one", 4)]) (N := ["made", "way", "kin", "found", "one"]) (sc := defScope s_l_asked) (by decide +kernel)) (fun _ _ _ _ _ => (pg_name (i := 4) sc_l_asked.nd rfl (by first | exact Or.inl rfl | exact Or.inr rfl))) (fun _ _ _ _ _ => pts_nil) (fun _ _ _ _ _ => (ge_meth0 (pv 4) T.cl_Sort T.m_Sort_told (ok_Sort_told T) hgu (hr.mono (by decide)) T.b_Sort_told .nil (fun _ => pass_none)))) (pa_cons (pv 3) pa_nil)))))) pss_nil)
 (pss_cons (ps_if (pt_cmpR (op_eqU hr.units) (pv 1) pe_int (nomark _)) (pss_cons (ps_set (i := 3) sc_l_asked.nd rfl (Or.inl rfl) (ge_meth0 (pv 0) T.cl_Sorts T.m_Sorts_kins (ok_Sorts_kins T) hgu (hr.mono (by decide)) T.b_Sorts_kins .nil (fun _ => pass_takes (takes_of rfl rfl rfl rfl))))
 (pss_one (ps_ret (pe_tup (pa_cons (pe_callTy call_listU (by rfl) T.n_list boot_list (pa_cons (pv 3) pa_nil)) (pa_cons (pv 3) pa_nil)))))) pss_nil)
 (pss_cons (ps_if (pt_cmpR (op_eqU hr.units) (pv 1) pe_int (nomark _)) (pss_cons (ps_set (i := 3) sc_l_asked.nd rfl (Or.inl rfl) (ge_meth (pv 0) T.cl_Sorts T.m_Sorts_of_kin (ok_Sorts_of_kin T) hgu (hr.mono (by decide)) T.b_Sorts_of_kin .nil (fun _ => pass_takes (takes_of rfl rfl rfl rfl)) (pa_cons (pv 2) pa_nil)))
 (pss_one (ps_ret (pe_tup (pa_cons (pe_lc (own := [("one", 4)]) rfl sc_l_asked.nd (pi_list (pv 3)) (blkOk_by (own := [("one", 4)]) (N := ["made", "way", "kin", "found", "one"]) (sc := defScope s_l_asked) (by decide +kernel)) (fun _ _ _ _ _ => (pg_name (i := 4) sc_l_asked.nd rfl (by first | exact Or.inl rfl | exact Or.inr rfl))) (fun _ _ _ _ _ => pts_nil) (fun _ _ _ _ _ => (ge_meth0 (pv 4) T.cl_Sort T.m_Sort_told (ok_Sort_told T) hgu (hr.mono (by decide)) T.b_Sort_told .nil (fun _ => pass_none)))) (pa_cons (pv 3) pa_nil)))))) pss_nil)
 (pss_cons (ps_if (pt_cmpR (op_eqU hr.units) (pv 1) pe_int (nomark _)) (pss_one (ps_ret (pe_tup (pa_cons (ge_meth0 (pv 0) T.cl_Sorts T.m_Sorts_told (ok_Sorts_told T) hgu (hr.mono (by decide)) T.b_Sorts_told .nil (fun _ => pass_takes (takes_of rfl rfl rfl rfl))) (pa_cons (pe_lstM pa_nil) pa_nil))))) pss_nil)
 (pss_one (ps_ret (pe_tup (pa_cons (pe_callB (call_lenO T.m_Sorts_len.at_ T.m_Sorts_len.fn (ok_Sorts_len T) T.b_Sorts_len hgu (hr.mono (by decide))) (by rfl) T.n_len boot_len (pa_cons (pv 0) pa_nil)) (pa_cons (pe_lstM pa_nil) pa_nil)))))))))), ?_⟩)
  · obtain ⟨a, ss, w, v, o, R, D, rfl, _⟩ := h
    rfl
  · obtain ⟨a, ss, w, v, o, R, D, rfl, hI, ia, kv, w0, w5, go⟩ := h
    obtain ⟨dx, pl, ea, ep, hss, hl⟩ := id ia
    wtm_at "go"
    wtm_at "sn"
    refine if_dec (fun h0 => ?_) (fun h0 => ?_)
    · subst h0
      wtm_at "sn"
      refine ssnames_use hI ia.at (fun q H1 hI1 => ?_)
      wtm_at "sn"
      rename_i p2 H2 D2 hI2 x2 e2 p3 H3 D3 hI3 x3 e3
      refine go p3 _ q _ _ _ hI3 (x2.trans x3) e3 ?_ (by rw [List.length_map]; exact hl)
      unfold askS
      rw [if_pos rfl]
      have e2' := x3 _ _ e2
      rw [show (ss.map fun s => V.str s.2.nm) = ((ss.map (·.2)).map (·.nm)).map V.str by rw [List.map_map, List.map_map]; rfl] at e2'
      exact .lst e2' (rep_strs _)
    wtm_at "sn"
    refine if_dec (fun h1 => ?_) (fun h1 => ?_)
    · subst h1
      wtm_at "sn"
      refine ⟨a, ss, R, D, rfl, hI, ia, fun q H1 hI1 => ?_⟩
      have eq1 := hI1.get (List.mem_cons_self ..)
      wtm_at "sn"
      refine lc_cell (a := q) (xs := ss.map fun s => V.ref s.1) (fun i acc R' D' => R' = (q, .lst (ss.map fun s => .ref s.1)) :: R ∧ Ex D D' ∧ acc.length = i ∧ RepL D' acc ((ss.take i).map fun s => s.2.d)) hI1 ⟨rfl, Ex.refl _, rfl, .nil⟩ (fun i acc R' D' p => ?_) (fun L i acc v' R' D' H' hv hI' p hl2 => ?_) (fun L acc R' D' H' hI' p hl2 => ?_)
      · rw [p.1]
        exact List.mem_cons_self ..
      · obtain ⟨rfl, xq, al, hrep⟩ := p
        rw [List.getElem?_map] at hv
        obtain ⟨s, hs, rfl⟩ := Option.map_eq_some_iff.mp hv
        have hi : i < ss.length := (List.getElem?_eq_some_iff.mp hs).1
        have is := told_cell hss xq hs
        obtain ⟨_, dxs, es⟩ := id is
        wtm_at "sn"
        refine told_use hI' is (fun p2 H2 D2 hI2 x2 e2 => ?_)
        refine le_mk hI2 ⟨rfl, xq.trans x2, by rw [List.length_append, al]; rfl, ?_⟩ hl2 (by omega)
        rw [take_more hs, List.map_append]
        exact (hrep.mono x2).snoc (Srt.rep e2)
      · obtain ⟨rfl, xq, al, hrep⟩ := p
        rw [List.length_map, List.take_length] at hrep
        obtain ⟨DF, hF, xF, eF⟩ := hI'.fr1
        wtm_at "sn"
        rename_i p3 H3 D3 hI3 x3 e3
        refine go p3 _ q _ _ _ hI3 (xq.trans (xF.trans x3)) e3 ?_ (by rw [List.length_map]; exact hl)
        unfold askS
        rw [if_neg (by decide), if_pos rfl, ← map_snd]
        exact .lst (x3 _ _ eF) (hrep.mono (xF.trans x3))
    wtm_at "sn"
    refine if_dec (fun h2 => ?_) (fun h2 => ?_)
    · subst h2
      wtm_at "sn"
      refine ⟨a, ss, R, D, rfl, hI, ia, fun q H1 hI1 => ?_⟩
      wtm_at "sn"
      rename_i p2 H2 D2 hI2 x2 e2 p3 H3 D3 hI3 x3 e3
      have kl := kinsOf_len (ys := ss.map fun s => s.2.kn)
      rw [List.length_map] at kl
      refine go p3 _ q _ _ _ hI3 (x2.trans x3) e3 ?_ (by rw [List.length_map]; omega)
      unfold askS
      rw [if_neg (by decide), if_neg (by decide), if_pos rfl]
      have e2' := x3 _ _ e2
      rw [show (ss.map fun s => s.2.kn) = (ss.map (·.2)).map (·.kn) by rw [List.map_map]; rfl] at e2'
      exact .lst e2' (rep_strs _)
    wtm_at "sn"
    refine if_dec (fun h3 => ?_) (fun h3 => ?_)
    · subst h3
      wtm_at "sn"
      refine ⟨a, ss, v, o, R, D, rfl, hI, ia, kv, fun q H1 hI1 => ?_⟩
      have eq1 := hI1.get (List.mem_cons_self ..)
      have fl : (ss.filter fun s => decide (o = some s.2.kn)).length ≤ 12 := Nat.le_trans (List.length_filter_le _ _) hl
      have hfs : ∀ s ∈ ss.filter (fun s => decide (o = some s.2.kn)), IsSrt K D s.1 s.2 := fun s hs => hss s (List.mem_filter.mp hs).1
      have ef : (ss.filter fun s => decide (o = some s.2.kn)).map (fun s => s.2.d) = ((ss.map (·.2)).filter fun u => decide (o = some u.kn)).map Srt.d := by
        rw [List.filter_map, List.map_map]
        rfl
      generalize ss.filter (fun s => decide (o = some s.2.kn)) = fs at hI1 eq1 fl hfs ef
      wtm_at "sn"
      refine lc_cell (a := q) (xs := fs.map fun s => V.ref s.1) (fun i acc R' D' => R' = (q, .lst (fs.map fun s => .ref s.1)) :: R ∧ Ex D D' ∧ acc.length = i ∧ RepL D' acc ((fs.take i).map fun s => s.2.d)) hI1 ⟨rfl, Ex.refl _, rfl, .nil⟩ (fun i acc R' D' p => ?_) (fun L i acc v' R' D' H' hv hI' p hl2 => ?_) (fun L acc R' D' H' hI' p hl2 => ?_)
      · rw [p.1]
        exact List.mem_cons_self ..
      · obtain ⟨rfl, xq, al, hrep⟩ := p
        rw [List.getElem?_map] at hv
        obtain ⟨s, hs, rfl⟩ := Option.map_eq_some_iff.mp hv
        have hi : i < fs.length := (List.getElem?_eq_some_iff.mp hs).1
        have is := told_cell hfs xq hs
        obtain ⟨_, dxs, es⟩ := id is
        wtm_at "sn"
        refine told_use hI' is (fun p2 H2 D2 hI2 x2 e2 => ?_)
        refine le_mk hI2 ⟨rfl, xq.trans x2, by rw [List.length_append, al]; rfl, ?_⟩ hl2 (by omega)
        rw [take_more hs, List.map_append]
        exact (hrep.mono x2).snoc (Srt.rep e2)
      · obtain ⟨rfl, xq, al, hrep⟩ := p
        rw [List.length_map, List.take_length] at hrep
        obtain ⟨DF, hF, xF, eF⟩ := hI'.fr1
        wtm_at "sn"
        rename_i p3 H3 D3 hI3 x3 e3
        refine go p3 _ q _ _ _ hI3 (xq.trans (xF.trans x3)) e3 ?_ (by rw [List.length_map]; exact fl)
        unfold askS
        rw [if_neg (by decide), if_neg (by decide), if_neg (by decide), if_pos rfl, ← ef]
        exact .lst (x3 _ _ eF) (hrep.mono (xF.trans x3))
    wtm_at "sn"
    refine if_dec (fun h4 => ?_) (fun h4 => ?_)
    · subst h4
      wtm_at "sn"
      refine sstold_use hI ia (fun q H1 D1 hI1 x1 r1 _ => ?_)
      wtm_at "sn"
      rename_i q2 H2 hI2 p3 H3 D3 hI3 x3 e3
      refine go p3 _ q2 _ _ _ hI3 (x1.trans x3) e3 ?_ (Nat.zero_le _)
      unfold askS
      rw [if_neg (by decide), if_neg (by decide), if_neg (by decide), if_neg (by decide), if_pos rfl, ← map_snd]
      exact r1.mono x3
    · wtm_at "sn"
      refine sslen_use hI ia ?_
      wtm_at "sn"
      rename_i q2 H2 hI2 p3 H3 D3 hI3 x3 e3
      refine go p3 _ q2 _ _ _ hI3 x3 e3 ?_ (Nat.zero_le _)
      unfold askS
      rw [if_neg h0, if_neg h1, if_neg h2, if_neg h3, if_neg h4, List.length_map]
      exact .int _
theorem lasked_use {K : PySem.W.Frag} {a : Addr} {ss : List (Addr × Srt)} {w : Int} {v : V} {o : Option Str} {R : Cells} {D H : Hp} {Q : VK} {E : XK} (hI : HI H R D) (ia : IsSs K D a ss) (kv : KinAt K D v o) (w0 : 0 ≤ w) (w5 : w ≤ 5)
  (go : ∀ p fv q xs H' D', HI H' ((q, .lst xs) :: R) D' → Ex D D' → D' p = some (.tup [fv, .ref q]) → Rep D' fv (askS (ss.map (·.2)) o w) → xs.length ≤ 12 → Q (.ref p) H') : spLAsked K [.ref a, .int w, v] H Q E := ⟨a, ss, w, v, o, R, D, rfl, hI, ia, kv, w0, w5, go⟩
def TupAt (D : Hp) (v : V) (s : Srt) : Prop := ∃ t, v = .ref t ∧ D t = some (.tup s.t)
theorem TupAt.mono {D D' : Hp} {v : V} {s : Srt} (h : TupAt D v s) (x : Ex D D') : TupAt D' v s := let ⟨p, e, h⟩ := h; ⟨p, e, x _ _ h⟩
theorem tups_rep {D : Hp} : ∀ {xs : List V} {us : List Srt}, Paired (TupAt D) xs us → RepL D xs (us.map Srt.d)
  | _, _, .nil => .nil
  | _, _, .cons ⟨t, e, h⟩ l => by
    rw [e]
    exact .cons (Srt.rep h) (tups_rep l)
theorem sm_srt {u : Srt} (o : u.Ok) : Sm u.d 700 1 := by
  have a := o.nm.txt
  have b := o.kn.txt
  have hn := o.n0
  have hn1 := o.n1
  have hk := o.k0
  have hk1 := o.k1
  have hb := o.b0
  have hb1 := o.b1
  have sI : ∀ {i : Int}, -100000 ≤ i → i ≤ 100000 → Sm (.int i) 100 0 := fun {i} h1 h2 => (Sm.int (Nat.lt_of_le_of_lt (by omega : i.natAbs ≤ 100000) (by decide))).mono (by omega) (Nat.le_refl _)
  have l1 := o.nm.l1
  have l2 := o.kn.l1
  refine (Sm.tuple (n := 100) (k := 0) (all_c ((Sm.str a.sg).mono (by omega) (Nat.le_refl _)) (all_c ((Sm.str b.sg).mono (by omega) (Nat.le_refl _)) (all_c (sI (by omega) (by omega)) (all_c (sI (by omega) (by omega)) (all_c (sI (by omega) (by omega)) all_n)))))).mono ?_ (Nat.le_refl _)
  show 100 * 5 + 2 * 5 + 3 ≤ 700
  omega
theorem kinsOf_mem {y : Str} : ∀ {ys : List Str}, y ∈ kinsOf ys → y ∈ ys := by
  have key : ∀ (ys acc : List Str), y ∈ ys.foldl (fun acc y => if y ∈ acc then acc else acc ++ [y]) acc → y ∈ acc ∨ y ∈ ys := by
    intro ys
    induction ys with
    | nil => exact fun acc h => .inl h
    | cons z zs ih =>
      intro acc h
      rw [List.foldl_cons] at h
      rcases ih _ h with h | h
      · split at h
        · exact .inl h
        · rcases List.mem_append.mp h with h | h
          · exact .inl h
          · exact .inr (by rw [List.mem_singleton.mp h]; exact List.mem_cons_self ..)
      · exact .inr (List.mem_cons_of_mem _ h)
  intro ys h
  rcases key ys [] h with h | h
  · cases h
  · exact h
theorem sm_strs {zs : List Str} (h : ∀ z ∈ zs, Sg z ∧ z.length ≤ 8) (l : zs.length ≤ 12) : Sm (.list (zs.map PyData.str)) 10000 2 := by
  refine (Sm.list (n := 100) (k := 1) fun d hd => ?_).mono ?_ (Nat.le_refl _)
  · obtain ⟨z, hz, rfl⟩ := List.mem_map.mp hd
    obtain ⟨a, b⟩ := h z hz
    exact (Sm.str a).mono (by omega) (Nat.zero_le _)
  · rw [List.length_map]
    omega
theorem sm_srts {us : List Srt} (h : ∀ u ∈ us, u.Ok) (l : us.length ≤ 12) : Sm (.list (us.map Srt.d)) 10000 2 ∧ Sm (.tuple (us.map Srt.d)) 10000 2 := by
  have hd : ∀ d ∈ us.map Srt.d, Sm d 700 1 := fun d hd => by
    obtain ⟨u, hu, rfl⟩ := List.mem_map.mp hd
    exact sm_srt (h u hu)
  exact ⟨(Sm.list hd).mono (by rw [List.length_map]; omega) (Nat.le_refl _), (Sm.tuple hd).mono (by rw [List.length_map]; omega) (Nat.le_refl _)⟩
theorem sm_askS {us : List Srt} {o : Option Str} {w : Int} (r : RwsOk us) : Sm (askS us o w) 10000 2 := by
  have l := r.l
  have h1 : ∀ z ∈ us.map (·.nm), Sg z ∧ z.length ≤ 8 := fun z hz => by
    obtain ⟨u, hu, rfl⟩ := List.mem_map.mp hz
    exact ⟨(r.ok u hu).nm.txt.sg, (r.ok u hu).nm.l1⟩
  have h2 : ∀ z ∈ kinsOf (us.map (·.kn)), Sg z ∧ z.length ≤ 8 := fun z hz => by
    obtain ⟨u, hu, rfl⟩ := List.mem_map.mp (kinsOf_mem hz)
    exact ⟨(r.ok u hu).kn.txt.sg, (r.ok u hu).kn.l1⟩
  unfold askS
  split
  · exact sm_strs h1 (by rw [List.length_map]; exact l)
  split
  · exact (sm_srts r.ok l).1
  split
  · exact sm_strs h2 (Nat.le_trans kinsOf_len (by rw [List.length_map]; exact l))
  split
  · exact (sm_srts (fun u hu => r.ok u (List.mem_filter.mp hu).1) (Nat.le_trans (List.length_filter_le _ _) l)).1
  split
  · exact (sm_srts r.ok l).2
  · exact (Sm.int (Nat.lt_of_le_of_lt (by omega : (us.length : Int).natAbs ≤ 1000) (by decide))).mono (by omega) (by omega)
theorem paired_rev {α β : Type} {r : α → β → Prop} : ∀ {xs : List α} {ys : List β}, Paired r xs ys → Paired r xs.reverse ys.reverse
  | _, _, .nil => .nil
  | _, _, .cons h l => by
    rw [List.reverse_cons, List.reverse_cons]
    exact paired_snoc h (paired_rev l)
theorem find_name {ss : List (Addr × Srt)} {us : List Srt} (ess : ss.map (·.2) = us) (nd : (us.map (·.nm)).Nodup) {s : Srt} (h : s ∈ us) : ∃ i ad, ss[i]? = some (ad, s) ∧ ∀ (j : Nat) (u : Addr × Srt), j < i → ss[j]? = some u → u.2.nm ≠ s.nm := by
  subst ess
  obtain ⟨⟨ad, s'⟩, hm, rfl⟩ := List.mem_map.mp h
  obtain ⟨i, hi⟩ := List.getElem?_of_mem hm
  refine ⟨i, ad, hi, fun j u hj hu e => ?_⟩
  rw [List.map_map] at nd
  have h1 : (ss.map ((fun x : Srt => x.nm) ∘ fun x : Addr × Srt => x.2))[i]? = some s'.nm := by rw [List.getElem?_map, hi]; rfl
  have h2 : (ss.map ((fun x : Srt => x.nm) ∘ fun x : Addr × Srt => x.2))[j]? = some s'.nm := by rw [List.getElem?_map, hu, ← e]; rfl
  obtain ⟨l1, g1⟩ := List.getElem?_eq_some_iff.mp h1
  obtain ⟨l2, g2⟩ := List.getElem?_eq_some_iff.mp h2
  have := (List.getElem_inj nd).mp (g2.trans g1.symm)
  omega
theorem srtL_nodict {us : List Srt} : PyData.hasDict (.list (us.map Srt.d)) = false := by rw [PyData.hasDict]; exact srts_dict
theorem srtL_eqv {us ws : List Srt} : PyData.eqv (.list (us.map Srt.d)) (.list (ws.map Srt.d)) = decide (us = ws) := by rw [PyData.eqv]; exact srts_eqv
theorem srtL_self {us : List Srt} : PyData.eqv (.list (us.map Srt.d)) (.list (us.map Srt.d)) = true := by rw [srtL_eqv]; exact decide_eq_true rfl
def lrightI (b a p L p6 due lft : Addr) (kv : V) (n : Nat) (R : Cells) (D9 : Hp) (m : Nat) (σ : L2.St) (R' : Cells) (D' : Hp) : Prop := ∃ (ks : List Int) (v8 v9 v10 : Option V), m = ks.length ∧ ks.length ≤ 6 ∧ (∀ k ∈ ks, 0 ≤ k ∧ k < 6) ∧ σ = [some (.ref b), some (.ref a), some (.ref p), some (.ref L), some (.ref p6), some kv, some (.ref due), some (.ref lft), v8, v9, v10, none] ∧ ∃ x y z n', R' = (lft, .lst (ks.map V.int)) :: (b, bx x y z) :: R ∧ BoxOk n' x y z ∧ n' + ks.length ≤ n + 10 ∧ Ex D9 D'
def spLRightS (K : PySem.W.Frag) : Sp := fun vs H Q _ => ∃ (b a p : Addr) (ss : List (Addr × Srt)) (xs : List V) (us : List Srt) (R : Cells) (D : Hp) (x y z : Int) (n : Nat), vs = [.ref b, .ref a, .ref p] ∧ HI H ((b, bx x y z) :: R) D ∧ BoxOk n x y z ∧ n + 100 < 1000000 ∧ IsSs K D a ss ∧ ss.map (·.2) = us ∧ D p = some (.lst xs) ∧ Paired (PartsAt D) xs us ∧ RwsOk us ∧
  ∀ x' y' z' n' H' D', HI H' ((b, bx x' y' z') :: R) D' → Ex D D' → BoxOk n' x' y' z' → n' ≤ n + 10 → Q (.bl true) H'
set_option maxHeartbeats 4000000 in
theorem ok_l_right {P : Program} {w : World} {K : PySem.W.Frag} {mg : Str → Option Value} {base : Heap} (T : Tx K mg) : FnG P w K mg base 11 (a_l_right K) ["box", "made", "rows"] (spLRightS K) := by
  refine T.f_l_right.ok sc_l_right (fun vs H Q E h => ?_) (fun cdv A outer s H vs Q E hgu hr h => ⟨_, (pss_cons (ps_setLc (i := 3) (own := [("row", 11)]) rfl sc_l_right.nd rfl rfl (sw_true rfl rfl rfl (by decide +kernel)) (pi_list (pv 2)) (blkOk_by (own := [("row", 11)]) (N := ["box", "made", "rows", "whole", "some", "kin", "due", "left", "way", "found", "told", "row"]) (sc := defScope s_l_right) (by decide +kernel)) (fun _ _ _ _ _ => (pg_name (i := 11) sc_l_right.nd rfl (by first | exact Or.inl rfl | exact Or.inr rfl))) (fun _ _ _ _ _ => pts_nil) (fun _ _ _ _ _ => (pe_callTy call_tupU (by rfl) T.n_tuple boot_tuple (pa_cons (pv 11) pa_nil))))
 (pss_cons (ps_set (i := 4) sc_l_right.nd rfl (Or.inl rfl) (pe_op op_addU (ge_call (ok_l_kins T) hgu (hr.mono (by decide)) rfl T.g_l_kins T.k_l_kins T.b_l_kins .nil (fun _ => pass_takes (takes_of rfl rfl rfl rfl)) (pa_cons (pv 2) pa_nil)) (pe_lst (pa_cons pe_str (pa_cons pe_str (pa_cons pe_int (pa_cons pe_non (pa_cons (pe_lst (pa_cons pe_str pa_nil)) (pa_cons (pv 1) (pa_cons (pe_dnewK) pa_nil))))))))))
 (pss_cons (ps_set (i := 5) sc_l_right.nd rfl (Or.inr rfl) (pe_ix ix_U (pv 4) (ge_call (ok_l_take T) hgu (hr.mono (by decide)) rfl T.g_l_take T.k_l_take T.b_l_take .nil (fun _ => pass_takes (takes_of rfl rfl rfl rfl)) (pa_cons (pv 0) (pa_cons (pe_callB (call_lenU) (by rfl) T.n_len boot_len (pa_cons (pv 4) pa_nil)) pa_nil))) (fun _ _ => rfl)))
 (pss_cons (ps_set (i := 6) sc_l_right.nd rfl (Or.inl rfl) (pe_lstM (pa_cons (pe_lc (own := [("row", 11)]) rfl sc_l_right.nd (pi_list (pv 2)) (blkOk_by (own := [("row", 11)]) (N := ["box", "made", "rows", "whole", "some", "kin", "due", "left", "way", "found", "told", "row"]) (sc := defScope s_l_right) (by decide +kernel)) (fun _ _ _ _ _ => (pg_name (i := 11) sc_l_right.nd rfl (by first | exact Or.inl rfl | exact Or.inr rfl))) (fun _ _ _ _ _ => pts_nil) (fun _ _ _ _ _ => (pe_ix ix_U (pv 11) pe_int (fun _ _ => rfl)))) (pa_cons (pv 3) (pa_cons (ge_call (ok_l_kins T) hgu (hr.mono (by decide)) rfl T.g_l_kins T.k_l_kins T.b_l_kins .nil (fun _ => pass_takes (takes_of rfl rfl rfl rfl)) (pa_cons (pv 2) pa_nil)) (pa_cons (pe_lc (own := [("row", 11)]) rfl sc_l_right.nd (pi_list (pv 3)) (blkOk_by (own := [("row", 11)]) (N := ["box", "made", "rows", "whole", "some", "kin", "due", "left", "way", "found", "told", "row"]) (sc := defScope s_l_right) (by decide +kernel)) (fun _ _ _ _ _ => (pg_name (i := 11) sc_l_right.nd rfl (by first | exact Or.inl rfl | exact Or.inr rfl))) (fun _ _ _ _ _ => (pts_one (pt_cmpR (OpR.or (op_eqKd hr.units) (op_eqKC (K := K) T.eq_Sorts (ok_Sorts_eq T) T.b_Sorts_eq hgu (hr.mono (by decide)) T.sb_Sorts rfl)) (pe_ix ix_U (pv 11) pe_int (fun _ _ => rfl)) (pv 5) (nomark _)))) (fun _ _ _ _ _ => (pv 11))) (pa_cons (pe_callTy call_tupU (by rfl) T.n_tuple boot_tuple (pa_cons (pv 3) pa_nil)) pa_nil)))))))
 (pss_cons (ps_expr (pe_bm PySem.F.plainAttrs_list PySem.F.slot_list_append PySem.F.type_list_append mt_append (pv 6) (pa_cons (pe_callB (call_lenU) (by rfl) T.n_len boot_len (pa_cons (pv 2) pa_nil)) pa_nil)))
 (pss_cons (ps_set (i := 7) sc_l_right.nd rfl (Or.inl rfl) (pe_lstM (pa_cons pe_int (pa_cons pe_int (pa_cons pe_int (pa_cons pe_int (pa_cons pe_int (pa_cons pe_int pa_nil))))))))
 (pss_cons (ps_while (passes_of rfl) (pt_cmpR (op_neI hr.units) (pv 7) (pe_lst pa_nil) (nomark _)) (pss_cons (ps_set (i := 8) sc_l_right.nd rfl (Or.inl rfl) (pe_bm PySem.F.plainAttrs_list PySem.F.slot_list_pop PySem.F.type_list_pop mt_popAt (pv 7) (pa_cons (ge_call (ok_l_take T) hgu (hr.mono (by decide)) rfl T.g_l_take T.k_l_take T.b_l_take .nil (fun _ => pass_takes (takes_of rfl rfl rfl rfl)) (pa_cons (pv 0) (pa_cons (pe_callB (call_lenU) (by rfl) T.n_len boot_len (pa_cons (pv 7) pa_nil)) pa_nil))) pa_nil)))
 (pss_cons (ps_asg (ge_call (ok_l_asked T) hgu (hr.mono (by decide)) rfl T.g_l_asked T.k_l_asked T.b_l_asked .nil (fun _ => pass_takes (takes_of rfl rfl rfl rfl)) (pa_cons (pv 1) (pa_cons (pv 8) (pa_cons (pv 5) pa_nil)))) (pg_tup (by rfl) (pgs_cons (pg_name (i := 9) sc_l_right.nd rfl (Or.inl rfl)) (pgs_cons (pg_name (i := 10) sc_l_right.nd rfl (Or.inl rfl)) pgs_nil))))
 (pss_cons (ps_if (PW.pt (pw_or (pt_cmpR (op_neU hr.units) (pe_callB (call_repr hgu hr T.sys) (by rfl) T.n_repr boot_repr (pa_cons (pv 9) pa_nil)) (pe_callB (call_repr hgu hr T.sys) (by rfl) T.n_repr boot_repr (pa_cons (pe_ix ix_U (pv 6) (pv 8) (fun _ _ => rfl)) pa_nil)) (nomark _)) (pw_or1 (pt_not (pt_val (pe_callB (show CallR _ (.builtin "isinstance") (RIsi K) from call_isiU) (by rfl) T.n_isinstance boot_isinstance (pa_cons (pv 10) (pa_cons (pe_bltn (v := .ty "list") (by rfl) T.n_list boot_list rfl) pa_nil)))))))) (pss_one (ps_ret pe_bl)) pss_nil)
 (pss_cons (ps_expr (pe_bm0 PySem.F.plainAttrs_list PySem.F.slot_list_reverse PySem.F.type_list_reverse mt_reverse (pv 10)))
 (pss_one (ps_expr (pe_bm PySem.F.plainAttrs_list PySem.F.slot_list_append PySem.F.type_list_append mt_append (pv 10) (pa_cons pe_non pa_nil)))))))))
 (pss_one (ps_ret (pe_cmpR (op_eqU hr.units) (pe_lc (own := [("row", 11)]) rfl sc_l_right.nd (pi_list (pe_revL (pv 3))) (blkOk_by (own := [("row", 11)]) (N := ["box", "made", "rows", "whole", "some", "kin", "due", "left", "way", "found", "told", "row"]) (sc := defScope s_l_right) (by decide +kernel)) (fun _ _ _ _ _ => (pg_name (i := 11) sc_l_right.nd rfl (by first | exact Or.inl rfl | exact Or.inr rfl))) (fun _ _ _ _ _ => pts_nil) (fun _ _ _ _ _ => (ge_meth0 (ge_meth (pv 1) T.cl_Sorts T.m_Sorts_by_name (ok_Sorts_by_name T) hgu (hr.mono (by decide)) T.b_Sorts_by_name .nil (fun _ => pass_none) (pa_cons (pe_ix ix_U (pv 11) pe_int (fun _ _ => rfl)) pa_nil)) T.cl_Sort T.m_Sort_told (ok_Sort_told T) hgu (hr.mono (by decide)) T.b_Sort_told .nil (fun _ => pass_none)))) (pe_revL (pv 3)) (nomark _))))))))))), ?_⟩)
  · obtain ⟨b, a, p, ss, xs, us, R, D, x, y, z, n, rfl, _⟩ := h
    rfl
  · obtain ⟨b, a, p, ss, xs, us, R, D, x, y, z, n, rfl, hI, hb, hn, ia, ess, ep, pus, rok, go⟩ := h
    have xl := pus.length
    have ul := rok.l
    wtm_at "go"
    wtm_at "sn"
    refine lc_lst (xs := xs) (fun j acc R' D' => R' = (b, bx x y z) :: R ∧ Ex D D' ∧ Paired (TupAt D') acc (us.take j)) hI ⟨rfl, Ex.refl _, .nil⟩ (fun j acc R' D' q => ?_) (fun L j acc v R' D' H' hv hI' q hl => ?_) (fun L acc R' D' H' hI' q hl => ?_)
    · exact q.2.1 _ _ ep
    · obtain ⟨rfl, xq, pac⟩ := q
      obtain ⟨s, hs, pr, rfl, epr⟩ := paired_get pus hv
      have hj := (List.getElem?_eq_some_iff.mp hv).1
      have eprq := xq _ _ epr
      wtm_at "sn"
      rename_i pt H2 D2 hI2 x2 et
      refine le_mk hI2 ⟨rfl, xq.trans x2, ?_⟩ hl (by omega)
      rw [take_more hs]
      exact paired_snoc ⟨pt, rfl, et⟩ (paired_mono (fun _ _ h => h.mono x2) pac)
    · obtain ⟨rfl, xq, pac⟩ := q
      rw [List.take_of_length_le (by omega)] at pac
      obtain ⟨D1, hI1, x1, eW⟩ := hI'.fr1
      have x01 := xq.trans x1
      have pac1 := paired_mono (fun _ _ h => TupAt.mono h x1) pac
      have acl := pac1.length
      wtm_at "sn"
      refine lkins_use hI1 (x01 _ _ ep) (paired_mono (fun _ _ h => h.mono x01) pus) ul (fun q1 H2 D2 hI2 x2 e2 => ?_)
      have kl := kinsOf_len (ys := us.map (·.kn))
      rw [List.length_map] at kl
      have kll : ((kinsOf (us.map (·.kn))).map V.str).length ≤ 12 := by rw [List.length_map]; omega
      wtm_at "sn"
      rename_i pa3 H3 D3 hI3 x3 ea3 pd4 H4 D4 hI4 x4 ed4 p5 H5 D5 hI5 x5 e5
      have x25 := x3.trans (x4.trans x5)
      refine RAdd.lst (hI5.dat (x25 _ _ e2)) (hI5.dat e5) (small_ok (by simp only [List.length_cons, List.length_nil]; omega)) ?_
      have hA : ∃ A, A = (kinsOf (us.map (·.kn))).map V.str ++ [V.str (Str.ofString "zz"), V.str (Str.ofString ""), V.int 7, V.non, V.ref pa3, V.ref a, V.ref pd4] := ⟨_, rfl⟩
      obtain ⟨A, hA⟩ := hA
      have Al : A.length ≤ 19 ∧ 7 ≤ A.length := by rw [hA, List.length_append]; simp only [List.length_cons, List.length_nil]; omega
      rw [← hA]
      wtm_at "sn"
      rename_i p6 H6 D6 hI6 x6 e6 tk x7 y7 z7 H7 hI7 bo7 tk0 tk1
      have ia6 : IsSs K D6 a ss := ia.mono (x01.trans (x2.trans (x25.trans x6)))
      refine RIx.pick (P := fun v => ∃ o, KinAt K D6 v o) (hI7.dat e6) (fun v hv => ?_) tk0 (by simpa using tk1) (fun kv hkv => ?_)
      · rw [hA] at hv
        rcases List.mem_append.mp hv with h | h
        · obtain ⟨k, _, rfl⟩ := List.mem_map.mp h
          exact ⟨_, .str k⟩
        · exact (show ∀ v ∈ [V.str (Str.ofString "zz"), V.str (Str.ofString ""), V.int 7, V.non, V.ref pa3, V.ref a, V.ref pd4], ∃ o, KinAt K D6 v o from all_c ⟨_, .str _⟩ (all_c ⟨_, .str _⟩ (all_c ⟨_, .int _⟩ (all_c ⟨_, .non⟩ (all_c ⟨_, .lst ((x4.trans (x5.trans x6)) _ _ ea3)⟩ (all_c ⟨_, .ss ia6⟩ (all_c ⟨_, .dict ((x5.trans x6) _ _ ed4)⟩ all_n))))))) v h
      obtain ⟨o, ko⟩ := hkv
      have x06 := x01.trans (x2.trans (x25.trans x6))
      have x16 := x2.trans (x25.trans x6)
      have ep6 := x06 _ _ ep
      have pus6 := paired_mono (fun _ _ h => PartsAt.mono h x06) pus
      have eW6 := x16 _ _ eW
      have pac6 := paired_mono (fun _ _ h => TupAt.mono h x16) pac1
      clear hI hI' hI1 hI2 hI3 hI4 hI5 hI6 ia ep pus pac pac1 eW ea3 ed4 e5 e6 e2 x1 x01 xq x2 x3 x4 x5 x6 x25 x16 kll
      wtm_at "sn"
      refine lc_lst (xs := xs) (fun j acc R' D' => R' = (b, bx x7 y7 z7) :: R ∧ D' = D6 ∧ acc = ((us.take j).map (·.nm)).map V.str) hI7 ⟨rfl, rfl, rfl⟩ (fun j acc R' D' q => ?_) (fun L j acc v R' D' H' hv hI' q hl => ?_) (fun L8 acc8 R' D' H' hI' q hl => ?_)
      · rw [q.2.1]
        exact ep6
      · obtain ⟨rfl, rfl, rfl⟩ := q
        obtain ⟨s, hs, pr, rfl, epr⟩ := paired_get pus6 hv
        have hj := (List.getElem?_eq_some_iff.mp hv).1
        wtm_at "sn"
        refine le_mk hI' ⟨rfl, rfl, ?_⟩ hl (by omega)
        rw [take_more hs, List.map_append, List.map_append]
        rfl
      · obtain ⟨rfl, rfl, rfl⟩ := q
        rw [List.take_of_length_le (by omega)] at hI'
        obtain ⟨D9, hI9, x9, e9⟩ := hI'.fr1
        wtm_at "sn"
        refine lkins_use hI9 (x9 _ _ ep6) (paired_mono (fun _ _ h => h.mono x9) pus6) ul (fun q2 H10 D10 hI10 x10 e10 => ?_)
        have x610 := x9.trans x10
        have pac10 := paired_mono (fun _ _ h => TupAt.mono h x610) pac6
        have eW10 := x610 _ _ eW6
        have ko10 := ko.mono x610
        wtm_at "sn"
        refine lc_lst (xs := acc) (fun j ac R' D' => R' = (b, bx x7 y7 z7) :: R ∧ D' = D10 ∧ Paired (TupAt D10) ac ((us.take j).filter fun u => decide (o = some u.kn)) ∧ ac.length ≤ j) hI10 ⟨rfl, rfl, .nil, Nat.le_refl _⟩ (fun j ac R' D' q => ?_) (fun L j ac v R' D' H' hv hI' q hl => ?_) (fun L11 ac11 R' D' H' hI' q hl => ?_)
        · rw [q.2.1]
          exact eW10
        · obtain ⟨rfl, rfl, pf, pfl⟩ := q
          obtain ⟨s, hs, pr, rfl, epr⟩ := paired_get pac10 hv
          have hj := (List.getElem?_eq_some_iff.mp hv).1
          have ok := rok.ok s (List.mem_of_getElem? hs)
          wtm_at "sn"
          refine kin_eq T ok.kn.txt.ok hI' ko10 ?_
          refine st_bl ?_
          have step : (us.take (j + 1)).filter (fun u => decide (o = some u.kn)) = (us.take j).filter (fun u => decide (o = some u.kn)) ++ (if decide (o = some s.kn) = true then [s] else []) := by
            rw [take_more hs, List.filter_append]
            congr 1
            exact fil_one
          by_cases hk : o = some s.kn
          · rw [decide_eq_true hk] at step ⊢
            refine iteT ?_
            wtm_at "sn"
            refine le_mk hI' ⟨rfl, rfl, ?_, by rw [List.length_append]; exact Nat.add_le_add_right pfl 1⟩ hl (by omega)
            rw [step]
            exact paired_snoc ⟨pr, rfl, epr⟩ pf
          · rw [decide_eq_false hk] at step ⊢
            refine iteF ?_
            refine lx_mk hI' ⟨rfl, rfl, ?_, by omega⟩ hl
            rw [step]
            show Paired _ _ (_ ++ [])
            rw [List.append_nil]
            exact pf
        · obtain ⟨rfl, rfl, pf, pfl⟩ := q
          rw [List.take_of_length_le (by omega)] at pf
          obtain ⟨D12, hI12, x12, e12⟩ := hI'.fr1
          have eW12 := x12 _ _ eW10
          wtm_at "sn"
          rename_i pt H13 D13 hI13 x13 e13 due H14 hI14 H15 hI15 lft H16 hI16
          obtain ⟨D17, hI17, x17, e17⟩ := hI16.swap.fr1
          have x617 := x610.trans (x12.trans (x13.trans x17))
          have x1217 := x13.trans x17
          have ia17 := ia6.mono x617
          have ko17 := ko.mono x617
          have eW17 := x1217 _ _ eW12
          have pac17 := paired_mono (fun _ _ h => TupAt.mono h (x12.trans x1217)) pac10
          obtain ⟨zs, hzs, hrep⟩ : ∃ zs, D17 due = some (.lst zs) ∧ ∀ j : Nat, j < 6 → ∃ v, zs[j]? = some v ∧ Rep D17 v (askS us o j) := by
            refine ⟨_, e17, fun j hj => ?_⟩
            have : j = 0 ∨ j = 1 ∨ j = 2 ∨ j = 3 ∨ j = 4 ∨ j = 5 := by omega
            rcases this with rfl | rfl | rfl | rfl | rfl | rfl
            · exact ⟨_, rfl, .lst ((x10.trans (x12.trans x1217)) _ _ e9) (rep_strs _)⟩
            · exact ⟨_, rfl, .lst eW17 (tups_rep pac17)⟩
            · exact ⟨_, rfl, .lst ((x12.trans x1217) _ _ e10) (rep_strs _)⟩
            · exact ⟨_, rfl, .lst (x1217 _ _ e12) (tups_rep (paired_mono (fun _ _ h => TupAt.mono h (x12.trans x1217)) pf))⟩
            · exact ⟨_, rfl, .tup (x17 _ _ e13) (tups_rep pac17)⟩
            · refine ⟨_, rfl, ?_⟩
              rw [xl]
              exact .int _
          clear eW6 eW10 eW12 e9 e10 e12 e13 e17 pac6 pac10 pf hI7 hI9 hI10 hI12 hI13 hI14 hI15 hI16 x9 x10 x610 x12 x13 x17 x1217 hI'
          refine while_hi (m := 6) (lrightI b a p L p6 due lft kv n R D17) hI17 ⟨[0, 1, 2, 3, 4, 5], none, none, none, rfl, by decide, by decide, rfl, _, _, _, _, rfl, bo7, by simp, Ex.refl _⟩ (fun m σ R' D' H' hI' q => ?_)
          obtain ⟨ks, v8, v9, v10, rfl, k8, kk, rfl, x', y', z', n', rfl, hb', hn', ex'⟩ := q
          wtm_at "sn"
          rename_i pe H18 D18 hI18 x18 e18
          cases ks with
          | nil =>
            refine .same (hI18.get (by wtm_at "mem")) (hI18.dat e18) all_n ?_
            wtm_at "sn"
            rename_i pr H19 D19 hI19 x19 e19
            have x1719 := ex'.trans (x18.trans x19)
            have prv := paired_rev (paired_mono (fun _ _ h => TupAt.mono h x1719) pac17)
            refine lc_lst (xs := acc.reverse) (fun j ac R' D' => R' = (lft, .lst (([] : List Int).map V.int)) :: (b, bx x' y' z') :: R ∧ Ex D19 D' ∧ Paired (TupAt D') ac (us.reverse.take j)) hI19 ⟨rfl, Ex.refl _, .nil⟩ (fun j ac R' D' q => ?_) (fun L j ac v R' D' H' hv hI' q hl => ?_) (fun L20 ac20 R' D' H' hI' q hl => ?_)
            · exact q.2.1 _ _ e19
            · obtain ⟨rfl, xq, pac⟩ := q
              obtain ⟨s, hs, pr, rfl, epr⟩ := paired_get prv hv
              have hj := (List.getElem?_eq_some_iff.mp hv).1
              obtain ⟨i, ad, hi, hf⟩ := find_name ess rok.nd (List.mem_reverse.mp (List.mem_of_getElem? hs))
              have eprq := xq _ _ epr
              have iaq := ia17.mono (x1719.trans xq)
              obtain ⟨dx, pl, ea, ep', hss, hl12⟩ := id iaq
              wtm_at "sn"
              refine ⟨a, ss, i, (ad, s), _, _, rfl, hI', iaq, hi, hf, fun H20 D20 hI20 x20 => ?_⟩
              have is20 : IsSrt K D20 ad s := (hss _ (List.mem_of_getElem? hi)).mono x20
              obtain ⟨_, dx2, es20⟩ := id is20
              dsimp only
              wtm_at "sn"
              refine told_use hI20 is20 (fun q21 H21 D21 hI21 x21 e21 => ?_)
              refine le_mk hI21 ⟨rfl, xq.trans (x20.trans x21), ?_⟩ hl (by rw [List.length_reverse] at hj; omega)
              rw [take_more hs]
              exact paired_snoc ⟨q21, rfl, e21⟩ (paired_mono (fun _ _ h => TupAt.mono h (x20.trans x21)) pac)
            · obtain ⟨rfl, xq, pac⟩ := q
              rw [List.take_of_length_le (by rw [List.length_reverse, List.length_reverse]; omega)] at pac
              obtain ⟨D21, hI21, x21, e21⟩ := hI'.fr1
              wtm_at "sn"
              rename_i p22 H22 D22 hI22 x22 e22
              have r1 := hI22.rep (.lst (x22 _ _ e21) (tups_rep (paired_mono (fun _ _ h => TupAt.mono h (x21.trans x22)) pac)))
              have r2 := hI22.rep (.lst e22 (tups_rep (paired_mono (fun _ _ h => TupAt.mono h (xq.trans (x21.trans x22))) prv)))
              have hd := srtL_nodict (us := us.reverse)
              have sh := srts_shapedL (us := us.reverse) (fun u hu => rok.ok u (List.mem_reverse.mp hu))
              refine req_dat r1 r2 hd hd sh sh ?_
              rw [srtL_self]
              exact go _ _ _ _ _ _ hI22.drop (x06.trans (x617.trans (x1719.trans (xq.trans (x21.trans x22))))) hb' (by simp at hn'; omega)
          | cons k0 r =>
            refine .len (hI18.get (by wtm_at "mem")) (hI18.dat e18) (by simp) ?_
            wtm_at "sn"
            refine ⟨NW (lrightI b a p L p6 due lft kv n R D17) (k0 :: r).length, fun σ' H' ⟨m', R', D', a, b, c⟩ => ⟨m', a, R', D', b, c⟩, ?_⟩
            have hpos : 0 < (k0 :: r).length := Nat.succ_pos _
            have hlen : (List.map V.int (k0 :: r)).length = (k0 :: r).length := List.length_map ..
            generalize (k0 :: r) = ks at *
            wtm_at "sn"
            rename_i pi x18' y18' z18' H19 hI19 hb19 pi0 pi1
            refine pop_now (by wtm_at "hi") pi0 pi1 (by omega) (fun yv H20 hy hI20 => ?_)
            rw [List.getElem?_map] at hy
            rw [erase_map] at hI20
            obtain ⟨kq, hq1, rfl⟩ := Option.map_eq_some_iff.mp hy
            have hmem := List.mem_of_getElem? hq1
            obtain ⟨q0, q7⟩ := kk kq hmem
            wtm_at "sn"
            refine lasked_use hI20 (ia17.mono (ex'.trans x18)) (ko17.mono (ex'.trans x18)) (by omega) (by omega) (fun p21 fv q21 xs21 H21 D21 hI21 x21 e21 rep21 xl21 => ?_)
            rw [ess] at rep21
            wtm_at "sn"
            refine repr_sm (hI21.rep rep21) (sm_askS rok) (by decide) (by decide) ?_
            wtm_at "sn"
            obtain ⟨j, rfl⟩ := Int.eq_ofNat_of_zero_le q0
            obtain ⟨v2, w1, w2⟩ := hrep j (by omega)
            have x1721 := ex'.trans (x18.trans x21)
            refine RIx.l (hI21.dat (x1721 _ _ hzs)) (atI_nat.trans w1) ?_
            wtm_at "sn"
            refine repr_sm (hI21.rep (w2.mono x1721)) (sm_askS rok) (by decide) (by decide) ?_
            wtm_at "sn"
            refine rev_now hI21 (fun H22 hI22 => ?_)
            wtm_at "sn"
            refine app_now hI22 (by rw [List.length_reverse]; omega) (fun H23 hI23 => ?_)
            wtm_at "sn"
            have hlt : (ks.eraseIdx pi.toNat).length + 1 = ks.length := by
              rw [List.length_eraseIdx]
              have : pi.toNat < ks.length := by omega
              rw [if_pos this]
              omega
            exact ⟨_, _, _, by omega, hI23.drop, ks.eraseIdx pi.toNat, _, _, _, rfl, by omega, fun k hk => kk k (List.mem_of_mem_eraseIdx hk), rfl, _, _, _, _, rfl, hb19, by omega, ex'.trans (x18.trans x21)⟩
theorem lright_use {K : PySem.W.Frag} {b a p : Addr} {ss : List (Addr × Srt)} {xs : List V} {us : List Srt} {R : Cells} {D H : Hp} {x y z : Int} {n : Nat} {Q : VK} {E : XK} (hI : HI H ((b, bx x y z) :: R) D) (bo : BoxOk n x y z) (hn : n + 100 < 1000000) (ia : IsSs K D a ss) (ess : ss.map (·.2) = us) (ep : D p = some (.lst xs)) (pus : Paired (PartsAt D) xs us) (rok : RwsOk us)
  (go : ∀ x' y' z' n' H' D', HI H' ((b, bx x' y' z') :: R) D' → Ex D D' → BoxOk n' x' y' z' → n' ≤ n + 10 → Q (.bl true) H') : spLRightS K [.ref b, .ref a, .ref p] H Q E := ⟨b, a, p, ss, xs, us, R, D, x, y, z, n, rfl, hI, bo, hn, ia, ess, ep, pus, rok, go⟩
section
variable {K : PySem.W.Frag} {mg : Str → Option Value} {R : Cells} {D H : Hp} {Q : VK} {a b : Addr} {ss us : List (Addr × Srt)} {y : V}
theorem eqSs_sorts (T : Tx K mg) (hI : HI H R D) (i1 : IsSs K D a ss) (i2 : IsSs K D b us) (q : ∀ H' D', HI H' R D' → Ex D D' → Q (.bl (decide (ss.map (·.2) = us.map (·.2)))) H') : REqO K (He.ga K "Sorts") (spEqSs K) false (.ref a) (.ref b) H Q := by
  obtain ⟨dx, pl, ea, _⟩ := id i1
  exact REqO.o (hI.dat ea) ((i2.tyS T.in_Sorts).mono hI.sub) T.nf_Sorts_Sorts ⟨a, ss, .ref b, R, D, rfl, hI, i1, .inr ⟨b, us, rfl, i2, fun H' D' h x => ⟨_, rfl, q _ _ h x⟩⟩⟩
theorem neSs_sorts (T : Tx K mg) (hI : HI H R D) (i1 : IsSs K D a ss) (i2 : IsSs K D b us) (q : ∀ H' D', HI H' R D' → Ex D D' → Q (.bl (!decide (ss.map (·.2) = us.map (·.2)))) H') : REqO K (He.ga K "Sorts") (spEqSs K) true (.ref a) (.ref b) H Q := by
  obtain ⟨dx, pl, ea, _⟩ := id i1
  exact REqO.o (hI.dat ea) ((i2.tyS T.in_Sorts).mono hI.sub) T.nf_Sorts_Sorts ⟨a, ss, .ref b, R, D, rfl, hI, i1, .inr ⟨b, us, rfl, i2, fun H' D' h x => ⟨_, rfl, q _ _ h x⟩⟩⟩
theorem eqSs_oth (T : Tx K mg) (hI : HI H R D) (i1 : IsSs K D a ss) (p : ∃ k n, Kn K D y k ∧ n ∈ seven ∧ k.tn = some n) (q : Q (.bl false) H) : REqO K (He.ga K "Sorts") (spEqSs K) false (.ref a) y H Q := by
  obtain ⟨dx, pl, ea, _⟩ := id i1
  obtain ⟨k, n, kn, hn, ek⟩ := p
  have ty : Ty K D y (.type n) := .b kn hn ek
  exact REqO.o (hI.dat ea) (ty.mono hI.sub) (T.nf_Sorts hn) ⟨a, ss, y, R, D, rfl, hI, i1, .inl ⟨_, ty, T.kb_Sorts hn, ⟨_, rfl, q⟩⟩⟩
end
theorem lrow_eqv {u w : Srt} : PyData.eqv u.lD w.lD = decide (u = w) := by
  have h := Srt.eqv (s := u) (u := w)
  simp only [Srt.lD, Srt.d, PyData.eqv] at h ⊢
  exact h
theorem lrows_dict : ∀ {us : List Srt}, PyData.hasDictAll (us.map Srt.lD) = false
  | [] => by simp [PyData.hasDictAll]
  | u :: us => by
    have := lrows_dict (us := us)
    simp [PyData.hasDictAll, PyData.hasDict, Srt.lD, this]
theorem lrows_lay : ∀ {us : List Srt}, (∀ u ∈ us, u.Ok) → PyData.canLayAll0 (us.map Srt.lD) = true
  | [], _ => by simp [PyData.canLayAll0]
  | u :: us, h => by
    have a := lrows_lay (us := us) fun x hx => h x (List.mem_cons_of_mem _ hx)
    have o := h u (List.mem_cons_self ..)
    simp [PyData.canLayAll0, a, Srt.lD, PyData.canLay0, o.nm.txt.ok, o.kn.txt.ok]
theorem lrows_depth : ∀ {us : List Srt}, PyData.depthAll (us.map Srt.lD) ≤ 1
  | [] => by simp [PyData.depthAll]
  | u :: us => by
    have := lrows_depth (us := us)
    simp [PyData.depthAll, Srt.lD, PyData.depth, this]
theorem lrows_shaped {us : List Srt} (h : ∀ u ∈ us, u.Ok) : SeqAt.shaped (.list (us.map Srt.lD)) = true := by
  have d := lrows_depth (us := us)
  simp [SeqAt.shaped, PyData.canLay0, lrows_lay h, PyData.depth]
  omega
theorem lrowsA_eqv : ∀ {us ws : List Srt}, PyData.eqvAll (us.map Srt.lD) (ws.map Srt.lD) = decide (us = ws)
  | [], [] => by simp [PyData.eqvAll]
  | [], _ :: _ => by simp [PyData.eqvAll]
  | _ :: _, [] => by simp [PyData.eqvAll]
  | u :: us, w :: ws => by
    have ih := lrowsA_eqv (us := us) (ws := ws)
    rw [List.map_cons, List.map_cons, Bool.eq_iff_iff]
    simp [PyData.eqvAll, lrow_eqv, ih]
theorem lrows_eqv {us ws : List Srt} : PyData.eqv (.list (us.map Srt.lD)) (.list (ws.map Srt.lD)) = decide (us = ws) := by rw [PyData.eqv]; exact lrowsA_eqv
theorem lrows_rep {D : Hp} : ∀ {xs : List V} {us : List Srt}, Paired (PartsAt D) xs us → RepL D xs (us.map Srt.lD)
  | _, _, .nil => .nil
  | _, _, .cons h l => .cons h.rep (lrows_rep l)
def spLaw : Sp := fun vs H Q _ => ∃ (l : Addr) (o : Obj) (ns : List Int) (R : Cells) (D : Hp), vs = [.ref l] ∧ HI H R D ∧ D l = some (.frz o (.lst (ns.map V.int))) ∧ ∀ H', Q (.bl true) H'
set_option maxHeartbeats 4000000 in
theorem ok_law {P : Program} {w : World} {K : PySem.W.Frag} {mg : Str → Option Value} {base : Heap} (T : Tx K mg) : FnG P w K mg base 12 (a_law K) ["script"] spLaw := by
  refine T.f_law.ok sc_law (fun vs H Q E h => ?_) (fun cdv A outer s H vs Q E hgu hr h => ⟨_, (pss_cons (ps_for (passes_of rfl) rfl (pi_range1 rfl T.n_range (pa_cons (pe_callB (call_maxU rfl) (by rfl) T.n_max boot_max (pa_cons pe_int (pa_cons (pe_callB (call_minU rfl) (by rfl) T.n_min boot_min (pa_cons pe_int (pa_cons (pe_callB (call_lenU) (by rfl) T.n_len boot_len (pa_cons (pv 0) pa_nil)) pa_nil))) pa_nil))) pa_nil)) (pg_name (i := 1) sc_law.nd rfl (Or.inl rfl)) (pss_cons (ps_set (i := 2) sc_law.nd rfl (Or.inl rfl) (ge_call (ok_l_box T) hgu (hr.mono (by decide)) rfl T.g_l_box T.k_l_box T.b_l_box .nil (fun _ => pass_takes (takes_of rfl rfl rfl rfl)) (pa_cons (ge_call (ok_l_cell T) hgu (hr.mono (by decide)) rfl T.g_l_cell T.k_l_cell T.b_l_cell .nil (fun _ => pass_takes (takes_of rfl rfl rfl rfl)) (pa_cons (pv 0) (pa_cons (pv 1) pa_nil))) pa_nil)))
 (pss_cons (ps_set (i := 3) sc_law.nd rfl (Or.inl rfl) (ge_call (ok_l_rows T) hgu (hr.mono (by decide)) rfl T.g_l_rows T.k_l_rows T.b_l_rows .nil (fun _ => pass_takes (takes_of rfl rfl rfl rfl)) (pa_cons (pv 2) pa_nil)))
 (pss_cons (ps_set (i := 4) sc_law.nd rfl (Or.inl rfl) (ge_call (ok_l_other T) hgu (hr.mono (by decide)) rfl T.g_l_other T.k_l_other T.b_l_other .nil (fun _ => pass_takes (takes_of rfl rfl rfl rfl)) (pa_cons (pv 2) (pa_cons (pv 3) pa_nil))))
 (pss_cons (ps_set (i := 5) sc_law.nd rfl (Or.inl rfl) (pe_lst (pa_cons (ge_call (ok_l_made T) hgu (hr.mono (by decide)) rfl T.g_l_made T.k_l_made T.b_l_made .nil (fun _ => pass_takes (takes_of rfl rfl rfl rfl)) (pa_cons (pv 2) (pa_cons (pv 3) pa_nil))) (pa_cons (ge_call (ok_l_made T) hgu (hr.mono (by decide)) rfl T.g_l_made T.k_l_made T.b_l_made .nil (fun _ => pass_takes (takes_of rfl rfl rfl rfl)) (pa_cons (pv 2) (pa_cons (pv 4) pa_nil))) pa_nil))))
 (pss_cons (ps_for (passes_of rfl) rfl (pi_list (pe_lst (pa_cons pe_int (pa_cons pe_int (pa_cons pe_int (pa_cons pe_int pa_nil)))))) (pg_name (i := 6) sc_law.nd rfl (Or.inl rfl)) (pss_one (ps_if (pt_not (pt_val (ge_call (ok_l_right T) hgu (hr.mono (by decide)) rfl T.g_l_right T.k_l_right T.b_l_right .nil (fun _ => pass_takes (takes_of rfl rfl rfl rfl)) (pa_cons (pv 2) (pa_cons (pe_ix ix_U (pv 5) (pv 6) (fun _ _ => rfl)) (pa_cons (pe_ix ix_U (pe_lst (pa_cons (pv 3) (pa_cons (pv 4) pa_nil))) (pv 6) (fun _ _ => rfl)) pa_nil)))))) (pss_one (ps_ret pe_bl)) pss_nil)))
 (pss_cons (ps_set (i := 7) sc_law.nd rfl (Or.inl rfl) (pe_cmpR (op_eqO T.eq_Sorts (ok_Sorts_eq T) T.b_Sorts_eq hgu (hr.mono (by decide))) (pv 3) (pv 4) (nomark _)))
 (pss_cons (ps_set (i := 8) sc_law.nd rfl (Or.inl rfl) (pe_lst (pa_cons (pe_cmpR (op_eqO T.eq_Sorts (ok_Sorts_eq T) T.b_Sorts_eq hgu (hr.mono (by decide))) (pe_ix ix_U (pv 5) pe_int (fun _ _ => rfl)) (pe_ix ix_U (pv 5) pe_int (fun _ _ => rfl)) (nomark _)) (pa_cons (pe_cmpR (op_eqO T.eq_Sorts (ok_Sorts_eq T) T.b_Sorts_eq hgu (hr.mono (by decide))) (pe_ix ix_U (pv 5) pe_int (fun _ _ => rfl)) (pe_ix ix_U (pv 5) pe_int (fun _ _ => rfl)) (nomark _)) (pa_cons (pe_cmpR (op_neO T.eq_Sorts (ok_Sorts_eq T) T.b_Sorts_eq hgu (hr.mono (by decide))) (pe_ix ix_U (pv 5) pe_int (fun _ _ => rfl)) (pe_ix ix_U (pv 5) pe_int (fun _ _ => rfl)) (nomark _)) (pa_cons (pe_cmpR (op_eqO T.eq_Sorts (ok_Sorts_eq T) T.b_Sorts_eq hgu (hr.mono (by decide))) (pe_ix ix_U (pv 5) pe_int (fun _ _ => rfl)) (ge_call (ok_l_made T) hgu (hr.mono (by decide)) rfl T.g_l_made T.k_l_made T.b_l_made .nil (fun _ => pass_takes (takes_of rfl rfl rfl rfl)) (pa_cons (pv 2) (pa_cons (pv 3) pa_nil))) (nomark _)) pa_nil))))))
 (pss_cons (ps_if (pt_cmpR (op_neO T.eq_Sorts (ok_Sorts_eq T) T.b_Sorts_eq hgu (hr.mono (by decide))) (pe_callB (call_repr hgu hr T.sys) (by rfl) T.n_repr boot_repr (pa_cons (pv 8) pa_nil)) (pe_callB (call_repr hgu hr T.sys) (by rfl) T.n_repr boot_repr (pa_cons (pe_lst (pa_cons (pv 7) (pa_cons (pv 7) (pa_cons (pe_not (pv 7)) (pa_cons pe_bl pa_nil))))) pa_nil)) (nomark _)) (pss_one (ps_ret pe_bl)) pss_nil)
 (pss_one (ps_for (passes_of rfl) rfl (pi_list (pe_lst (pa_cons (ge_meth0 (pe_ix ix_U (pv 5) pe_int (fun _ _ => rfl)) T.cl_Sorts T.m_Sorts_all_sorts (ok_Sorts_all_sorts T) hgu (hr.mono (by decide)) T.b_Sorts_all_sorts .nil (fun _ => pass_takes (takes_of rfl rfl rfl rfl))) (pa_cons (ge_meth0 (pe_ix ix_U (pv 5) pe_int (fun _ _ => rfl)) T.cl_Sorts T.m_Sorts_told (ok_Sorts_told T) hgu (hr.mono (by decide)) T.b_Sorts_told .nil (fun _ => pass_takes (takes_of rfl rfl rfl rfl))) (pa_cons pe_non (pa_cons (pe_callB (call_lenU) (by rfl) T.n_len boot_len (pa_cons (pv 3) pa_nil)) pa_nil)))))) (pg_name (i := 9) sc_law.nd rfl (Or.inl rfl)) (pss_one (ps_if (pt_cmpR (op_eqO T.eq_Sorts (ok_Sorts_eq T) T.b_Sorts_eq hgu (hr.mono (by decide))) (pe_ix ix_U (pv 5) pe_int (fun _ _ => rfl)) (pv 9) (nomark _)) (pss_one (ps_ret pe_bl)) pss_nil)))))))))))))
 (pss_one (ps_ret pe_bl))), ?_⟩)
  · obtain ⟨l, o, ns, R, D, rfl, _⟩ := h
    rfl
  · obtain ⟨l, o, ns, R, D, rfl, hI, hl, go⟩ := h
    wtm_at "go"
    wtm_at "sn"
    refine for_rng (fun i σ R' D' => ∃ a1 a2 a3 a4 a5 a6 a7 a8 a9 : Option V, σ = [some (.ref l), a1, a2, a3, a4, a5, a6, a7, a8, a9] ∧ R' = R ∧ Ex D D') hI ⟨_, _, _, _, _, _, _, _, _, rfl, rfl, Ex.refl _⟩ (fun i σ R' D' H' hi hI' p => ?_) (fun σ R' D' H' hI' p => ?_)
    · obtain ⟨a1, a2, a3, a4, a5, a6, a7, a8, a9, rfl, hRR, x⟩ := p
      rw [hRR] at hI'
      wtm_at "sn"
      refine cell_now hI' (by wtm_at "dat") (by omega) (by omega) (fun c H5 hI5 => ?_)
      wtm_at "sn"
      refine box_now hI5 (fun b xx yy H6 hI6 bo6 => ?_)
      wtm_at "sn"
      refine ⟨b, R, D', xx, yy, 0, 0, rfl, hI6, bo6, by decide, fun p1 xs us x7 y7 z7 n7 H7 D7 hI7 xx7 bo7 hn7 e7 pus rok => ?_⟩
      wtm_at "sn"
      refine lother_use hI7 bo7 (by omega) e7 pus rok (fun p2 ys ws x8 y8 z8 n8 H8 D8 hI8 xx8 bo8 hn8 e8 pws wok => ?_)
      wtm_at "sn"
      refine lmade_use hI8 bo8 (by omega) (xx8 _ _ e7) (paired_mono (fun _ _ h => h.mono xx8) pus) rok (fun s1 ss1 x9 y9 z9 H9 D9 hI9 xx9 bo9 i1 es1 => ?_)
      wtm_at "sn"
      refine lmade_use hI9 bo9 (by omega) (xx9 _ _ e8) (paired_mono (fun _ _ h => h.mono xx9) pws) wok (fun s2 ss2 x10 y10 z10 H10 D10 hI10 xx10 bo10 i2 es2 => ?_)
      wtm_at "sn"
      rename_i pr H11 D11 hI11 x11 e11 pq H12 D12 hI12 x12 e12
      refine for_lst (xs := [V.int 0, .int 1, .int 0, .int 1]) (fun i σ R' D' => ∃ (a1 a6 : Option V) (x y z : Int) (n' : Nat), σ = [some (.ref l), a1, some (.ref b), some (.ref p1), some (.ref p2), some (.ref pr), a6, a7, a8, a9] ∧ R' = (b, bx x y z) :: R ∧ BoxOk n' x y z ∧ n' ≤ n8 + 2 + 10 * i ∧ Ex D12 D') hI12 ⟨_, _, _, _, _, _, rfl, rfl, bo10, by omega, Ex.refl _⟩ (fun i σ R' D' q => ?_) (fun i v σ R' D' H' hv hI' q => ?_) (fun σ R' D' H' hI' q => ?_)
      · obtain ⟨_, _, _, _, _, _, _, _, _, _, xq⟩ := q
        exact xq _ _ e12
      · obtain ⟨a1, a6, x', y', z', n', rfl, rfl, bo', hn', xq⟩ := q
        have hi4 : i < 4 := (List.getElem?_eq_some_iff.mp hv).1
        have hv2 : v = .int 0 ∨ v = .int 1 := by
          have : i = 0 ∨ i = 1 ∨ i = 2 ∨ i = 3 := by omega
          rcases this with rfl | rfl | rfl | rfl
          · exact .inl (Option.some.inj hv).symm
          · exact .inr (Option.some.inj hv).symm
          · exact .inl (Option.some.inj hv).symm
          · exact .inr (Option.some.inj hv).symm
        have x812 := xx9.trans (xx10.trans (x11.trans (x12.trans xq)))
        have epr := (x12.trans xq) _ _ e11
        rcases hv2 with rfl | rfl
        · wtm_at "sn"
          rename_i pz H13 D13 hI13 x13 e13
          refine lright_use hI13 bo' (by omega) (i1.mono (xx10.trans (x11.trans (x12.trans (xq.trans x13))))) es1 ((xx8.trans (x812.trans x13)) _ _ e7) (paired_mono (fun _ _ h => h.mono (xx8.trans (x812.trans x13))) pus) rok (fun x14 y14 z14 n14 H14 D14 hI14 xx14 bo14 hn14 => ?_)
          wtm_at "sn"
          exact ⟨_, _, hI14, _, _, _, _, _, _, rfl, rfl, bo14, by omega, xq.trans (x13.trans xx14)⟩
        · wtm_at "sn"
          rename_i pz H13 D13 hI13 x13 e13
          refine lright_use hI13 bo' (by omega) (i2.mono (x11.trans (x12.trans (xq.trans x13)))) es2 ((x812.trans x13) _ _ e8) (paired_mono (fun _ _ h => h.mono (x812.trans x13)) pws) wok (fun x14 y14 z14 n14 H14 D14 hI14 xx14 bo14 hn14 => ?_)
          wtm_at "sn"
          exact ⟨_, _, hI14, _, _, _, _, _, _, rfl, rfl, bo14, by omega, xq.trans (x13.trans xx14)⟩
      · obtain ⟨a1, a6, x', y', z', n', rfl, rfl, bo', hn', xq⟩ := q
        have x812 := xx9.trans (xx10.trans (x11.trans (x12.trans xq)))
        have epr := (x12.trans xq) _ _ e11
        simp only [List.length_cons, List.length_nil] at hn'
        have e7q := (xx8.trans x812) _ _ e7
        have e8q := x812 _ _ e8
        have pusq := paired_mono (fun _ _ h => PartsAt.mono h (xx8.trans x812)) pus
        have pwsq := paired_mono (fun _ _ h => PartsAt.mono h x812) pws
        have i1q := i1.mono (xx10.trans (x11.trans (x12.trans xq)))
        have i2q := i2.mono (x11.trans (x12.trans xq))
        have xD := x.trans (xx7.trans (xx8.trans x812))
        clear hI hI6 hI7 hI8 hI9 hI10 hI11 hI12 i1 i2 pus pws e7 e8 e11 e12 x812 x11 x12 xx8 xx9 xx10 xq
        wtm_at "sn"
        refine .b (req_dat (hI'.rep (.lst e7q (lrows_rep pusq))) (hI'.rep (.lst e8q (lrows_rep pwsq))) (by rw [PyData.hasDict]; exact lrows_dict) (by rw [PyData.hasDict]; exact lrows_dict) (lrows_shaped rok.ok) (lrows_shaped wok.ok) ?_)
        rw [lrows_eqv]
        wtm_at "sn"
        refine eqSs_sorts T hI' i1q i2q (fun H13 D13 hI13 x13 => ?_)
        rw [es1, es2]
        have i1r := i1q.mono x13
        have i2r := i2q.mono x13
        have epr := x13 _ _ epr
        wtm_at "sn"
        refine eqSs_sorts T hI13 i2r i1r (fun H14 D14 hI14 x14 => ?_)
        rw [es1, es2]
        have i1s := i1r.mono x14
        have i2s := i2r.mono x14
        have epr := x14 _ _ epr
        wtm_at "sn"
        refine neSs_sorts T hI14 i1s i2s (fun H15 D15 hI15 x15 => ?_)
        rw [es1, es2]
        have i1t := i1s.mono x15
        have x1315 := x13.trans (x14.trans x15)
        have epr := x15 _ _ epr
        wtm_at "sn"
        refine lmade_use hI15 bo' (by omega) (x1315 _ _ e7q) (paired_mono (fun _ _ h => h.mono x1315) pusq) rok (fun s3 ss3 x16 y16 z16 H16 D16 hI16 xx16 bo16 i3 es3 => ?_)
        wtm_at "sn"
        refine eqSs_sorts T hI16 (i1t.mono xx16) i3 (fun H17 D17 hI17 x17 => ?_)
        rw [es1, es3, show decide (ws = us) = decide (us = ws) from decide_eq_decide.mpr ⟨Eq.symm, Eq.symm⟩, show decide (us = us) = true from decide_eq_true rfl]
        generalize decide (us = ws) = c
        have smb : Sm (.list [.bool c, .bool c, .bool !c, .bool true]) 100 1 := (Sm.list (n := 5) (k := 0) (all_c (Sm.bl _) (all_c (Sm.bl _) (all_c (Sm.bl _) (all_c (Sm.bl _) all_n))))).mono (Nat.le_of_ble_eq_true rfl) (by decide)
        wtm_at "sn"
        rename_i p18 H18 D18 hI18 x18 e18
        refine repr_sm (hI18.rep (.lst e18 (.cons (.bl _) (.cons (.bl _) (.cons (.bl _) (.cons (.bl _) .nil)))))) smb (by decide) (by decide) ?_
        wtm_at "sn"
        rename_i p19 H19 D19 hI19 x19 e19
        refine repr_sm (hI19.rep (.lst e19 (.cons (.bl _) (.cons (.bl _) (.cons (.bl _) (.cons (.bl _) .nil)))))) smb (by decide) (by decide) ?_
        have i1u := i1t.mono (xx16.trans (x17.trans (x18.trans x19)))
        have epr := (xx16.trans (x17.trans (x18.trans x19))) _ _ epr
        have e7u := (x1315.trans (xx16.trans (x17.trans (x18.trans x19)))) _ _ e7q
        obtain ⟨dx, pl, ea, _⟩ := id i1u
        have xl := pusq.length
        have ul := rok.l
        refine .b ?_
        wtm_at "sn"
        refine ⟨s1, ss1, _, _, rfl, hI19, i1u, fun q20 H20 hI20 => ?_⟩
        obtain ⟨D21, hI21, x21, e21⟩ := hI20.fr1
        have epr := x21 _ _ epr
        have ea21 := x21 _ _ ea
        wtm_at "sn"
        refine sstold_use hI21 (i1u.mono x21) (fun p22 H22 D22 hI22 x22 r22 e22 => ?_)
        obtain ⟨ys22, e22⟩ := e22
        wtm_at "sn"
        rename_i pt H23 D23 hI23 x23 e23
        have i1v := i1u.mono (x21.trans (x22.trans x23))
        have epr := (x22.trans x23) _ _ epr
        have e21v := (x22.trans x23) _ _ e21
        have e22v := x23 _ _ e22
        have xE := xD.trans (x1315.trans (xx16.trans (x17.trans (x18.trans (x19.trans (x21.trans (x22.trans x23)))))))
        refine for_lst (xs := [.ref q20, .ref p22, .non, .int xs.length]) (fun i σ R' D' => ∃ a9 : Option V, σ = [some (.ref l), a1, some (.ref b), some (.ref p1), some (.ref p2), some (.ref pr), a6, some (.bl c), some (.ref p18), a9] ∧ R' = (b, bx x16 y16 z16) :: R ∧ D' = D23) hI23 ⟨_, rfl, rfl, rfl⟩ (fun i σ R' D' q => ?_) (fun i v σ R' D' H' hv hI' q => ?_) (fun σ R' D' H' hI' q => ?_)
        · obtain ⟨_, _, _, rfl⟩ := q
          exact e23
        · obtain ⟨a9, rfl, rfl, hD⟩ := q
          rw [hD] at hI'
          wtm_at "sn"
          refine eqSs_oth T hI' i1v ?_ ?_
          · exact (show ∀ v ∈ [V.ref q20, V.ref p22, V.non, V.int xs.length], ∃ k n, Kn K D23 v k ∧ n ∈ seven ∧ k.tn = some n from all_c ⟨_, _, .lst e21v, by simp [seven], rfl⟩ (all_c ⟨_, _, .tup e22v, by simp [seven], rfl⟩ (all_c ⟨_, _, .non, by simp [seven], rfl⟩ (all_c ⟨_, _, .int _, by simp [seven], rfl⟩ all_n)))) v (List.mem_of_getElem? hv)
          wtm_at "sn"
          exact ⟨_, _, hI', _, rfl, rfl, rfl⟩
        · obtain ⟨a9, rfl, rfl, hD⟩ := q
          rw [hD] at hI'
          exact ⟨_, _, hI'.drop, _, _, _, _, _, _, _, _, _, rfl, rfl, xE⟩
    · obtain ⟨a1, a2, a3, a4, a5, a6, a7, a8, a9, rfl, hRR, x⟩ := p
      wtm_at "sn"
      exact go _
end Wk
set_option maxRecDepth 100000
set_option maxHeartbeats 0
namespace Wk
open PySem PySem.Spec PyProof.Rows L2
theorem law_hc {q : Program} {loose : List Str} {XP : (Str → Option Value) → Heap → Prop} {d : DefRec} (hdf : d.params.defaults = []) (hnm : d.name = "law") : PySem.W.WalkO q loose XP hk.says (PySem.W.OpenLaw.row PySem.Challenge.rw_weekheads_k09_lists_of_sorts).toRowW d [] (fun f vs => PySem.call f vs) := by
  refine law_endG (l := PySem.Challenge.rw_weekheads_k09_lists_of_sorts) (n := 63) (k := 12) (x := "script") rfl (by decide) hdf ⟨rfl, by decide, by decide⟩ (fun w mg fa h Y G hmg => ?_)
  obtain ⟨K, X, c⟩ := Y
  have T : Tx K mg := ⟨c, h, X, G⟩
  rw [hnm] at hmg
  have e := hmg.symm.trans T.g_law
  cases e
  exact ⟨K, spLaw, X, T.nol, fun s u => FunD.bindsA (ps := ["script"]) T.f_law (fun _ _ _ _ _ _ us hl => match us, hl with | [_], _ => rfl) s [u] rfl, fun H a o ns hl hI ha => ⟨a, o, ns, [], H, rfl, hI, ha, fun _ => rfl⟩, fun base _ _ => ok_law T⟩
end Wk
theorem PySem.Challenge.cw_weekheads_k09_lists_of_sorts_holds : PySem.Challenge.rw_weekheads_k09_lists_of_sorts.Holds := by
  exact Wk.lawFin fun h1 h2 => Wk.law_hc h1 h2
