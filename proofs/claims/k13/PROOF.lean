import PyProof.Rows.All
import Wide.All
import OpenK.AllK
import Wide.FinOn
import KE.KStateDown
import HandS.ForExc
import HandS.Defaults
import HandS.Head0
import HandS.Head1
import HandS.Head2
import HandS.HeadEnd
import HandS.HeadHook1
import HandS.HeadHook2
import HandS.ForMost
import HandS.Wide
import HandS.IsInst
import HandS.Flow
import HandS.Evl
import PyProof.ReprRoads
import PyProof.CallFns
import HandS.Text
import HandS.Walk
import HandS.ExcInit
import HandS.ExcIs
import HandS.ExcOwn
import HandS.TryMany
import HandS.MakeKwOnly
import KE.KCallOwn
import OpenK.KOps
import HandS.FStr
import PyProof.ExcRepr
import PyProof.ExcReprCall
import HandS.NamedTupSort
import PyProof.StrLawsRepr
import PyProof.ReprLen
import PyProof.StrLawsChain
import PyProof.StrLawsTight
import HandS.StrMore
import HandS.WordsDict
import HandS.More
import PyProof.NeKinds
import HandS.Style
import PyProof.EqKinds
import PyProof.MeetsIn
import HandS.SortKw
import KE.GoesEnumKw
import HandS.OwnEq
import KE.KFmtOwn
import HandS.Conv
import KE.SortData
import PySem.Challenge.RW_weekheads_k13_whole_told_in_any_order
set_option Elab.async false
set_option linter.all false
set_option maxRecDepth 100000
set_option maxHeartbeats 4000000
namespace WA
open PySem PySem.Spec PyProof.Rows L2
/-- a name's value in a namespace, for picking alone -/
def nm (g : Addr → Option Obj) (n : Addr) (x : Str) : Option Value := (g n).bind fun o => match o.data with
  | .dict es _ => (es.toList.find? fun e => e.key.isStr x).map fun e => e.val
  | _ => none
def ad : Option Value → Addr
  | some (.ref a) => a
  | _ => 0
def adV : Value → List Addr
  | .ref a => [a]
  | _ => []
def nsOf (g : Addr → Option Obj) (C : Addr) : Addr := match g C with
  | some o => (match o.data with
    | .cls cd => cd.ns
    | _ => 0)
  | none => 0
def fnOf (g : Addr → Option Obj) (f : Addr) : List Addr := match g f with
  | some o => (match o.data with
    | .func fd => f :: (adV fd.code ++ adV fd.defaults)
    | _ => [f])
  | none => []
def atOf (g : Addr → Option Obj) (p : Str × Option Str) : Addr := match p.2 with
  | none => ad (nm g mainGlobals p.1)
  | some m => ad (nm g (nsOf g (ad (nm g mainGlobals p.1))) m)
/-- the objects that are looked at: the module's names, the classes, the defs -/
def pick (g : Addr → Option Obj) (cs : List Str) (fs : List (Str × Option Str)) : List Addr :=
  mainGlobals :: sysModules :: cStatics :: ((cs.flatMap fun x => [ad (nm g mainGlobals x), nsOf g (ad (nm g mainGlobals x))]) ++ fs.flatMap fun p => fnOf g (atOf g p))
/-- a list is laid open ahead of what follows -/
def openL {α : Type} : PySem.W.Frag → (PySem.W.Frag → α) → α
  | [], k => k []
  | (a, o) :: r, k => HandSHeadRun.frNat a fun a => openL r fun r => k ((a, o) :: r)
theorem openL_eq {α : Type} : ∀ (K : PySem.W.Frag) (k : PySem.W.Frag → α), openL K k = k K
  | [], k => rfl
  | (a, o) :: r, k => by
    show HandSHeadRun.frNat a (fun a => openL r fun r => k ((a, o) :: r)) = _
    rw [HandSHeadRun.frNat_eq, openL_eq r]
abbrev Fx := PySem.W.Frag → Bool
abbrev AlX : Type := Bool × List He.FnW
def obsX (fx : List Fx) (fn : List He.DefD) (K : PySem.W.Frag) : AlX := ((fx.all fun f => f K) && fn.all fun d => d.ok K, fn.map fun d => He.fnW K d.at_)
def valX (fn : List He.DefD) : AlX := (true, fn.map He.DefD.val)
def SaysX (fx : List Fx) (fn : List He.DefD) (K : PySem.W.Frag) : Prop := obsX fx fn K = valX fn
def obsXG (cs : List Str) (fx : List Fx) (fn : List He.DefD) (g : Addr → Option Obj) : AlX := openL (He.frG g (pick g cs (fn.map fun d => d.at_))) fun K => obsX fx fn K
def hookX (cs : List Str) (fx : List Fx) (fn : List He.DefD) : PySem.W.Hook where
  α := AlX
  obs := fun s => obsXG cs fx fn s.heap.get?
  val := fun _ => valX fn
  says := fun _ h => ∃ K : PySem.W.Frag, K.In h ∧ SaysX fx fn K
  of := fun _ _ e => ⟨_, He.frG_in, by
    unfold obsXG at e
    rw [openL_eq] at e
    exact e⟩
  keeps := fun _ _ _ ⟨K, X, c⟩ k => ⟨K, X.keeps k, c⟩
theorem obsXG_eq {cs : List Str} {fx : List Fx} {fn : List He.DefD} {g : Addr → Option Obj} {s : Shared} (h : ∀ a, g a = s.heap.get? a) : obsXG cs fx fn g = (hookX cs fx fn).obs s := by
  have e : g = s.heap.get? := funext h
  rw [e]
  rfl
section
variable {fx : List Fx} {fn : List He.DefD} {K : PySem.W.Frag}
theorem SaysX.two (c : SaysX fx fn K) : (∀ f ∈ fx, f K = true) ∧ (∀ d ∈ fn, d.ok K = true) ∧ fn.map (fun d => He.fnW K d.at_) = fn.map He.DefD.val := by
  have c1 : ((fx.all fun f => f K) && fn.all fun d => d.ok K) = true := congrArg Prod.fst c
  have c2 : fn.map (fun d => He.fnW K d.at_) = fn.map He.DefD.val := congrArg Prod.snd c
  obtain ⟨a, b⟩ := He.ba c1
  exact ⟨List.all_eq_true.mp a, List.all_eq_true.mp b, c2⟩
theorem SaysX.fact (c : SaysX fx fn K) (i : Nat) {f : Fx} (h : fx[i]? = some f := by rfl) : f K = true := c.two.1 f (List.mem_of_getElem? h)
theorem SaysX.def_ (c : SaysX fx fn K) (i : Nat) {d : He.DefD} (h : fn[i]? = some d := by rfl) : ∃ fd, FunD K d.name d.qual d.params d.body d.scope (d.dvs K) (d.kws K) (He.fAd K d.at_) fd := by
  obtain ⟨_, b, e⟩ := c.two
  have e1 : (fn.map fun d => He.fnW K d.at_)[i]? = (fn.map He.DefD.val)[i]? := by rw [e]
  rw [List.getElem?_map, List.getElem?_map, h] at e1
  exact He.DefD.funD (Option.some.inj e1) (b d (List.mem_of_getElem? h))
end
end WA
set_option maxRecDepth 100000
set_option maxHeartbeats 4000000
namespace Wk
open PySem PySem.Spec PyProof.Rows L2
structure HI (H : Hp) (R : List (Addr × HO)) (D : Hp) : Prop where
  nd : (R.map (·.1)).Nodup
  cell : ∀ p ∈ R, H p.1 = some p.2 ∧ D p.1 = none
  sub : ∀ a o, D a = some o → H a = some o
/-- more data -/
def Ex (D D' : Hp) : Prop := ∀ a o, D a = some o → D' a = some o
theorem Ex.refl (D : Hp) : Ex D D := fun _ _ h => h
theorem Ex.trans {D D1 D2 : Hp} (a : Ex D D1) (b : Ex D1 D2) : Ex D D2 := fun x o h => b x o (a x o h)
theorem Ex.new {D : Hp} {p : Addr} {o : HO} (h : D p = none) : Ex D (upd D p o) := fun a u e => by
  rw [upd_ne (ne_of_none e h)]
  exact e
section
variable {H D : Hp} {R : List (Addr × HO)} {a p : Addr} {o u : HO} {x y z : Addr × HO}
theorem HI.get (h : HI H R D) (m : (a, o) ∈ R) : H a = some o := (h.cell _ m).1
theorem HI.dat (h : HI H R D) (d : D a = some o) : H a = some o := h.sub a o d
theorem HI.free (h : HI H R D) (hp : H p = none) : D p = none := by
  cases q : D p with
  | none => rfl
  | some w =>
    rw [h.sub p w q] at hp
    cases hp
theorem HI.notin (h : HI H R D) (hp : H p = none) : p ∉ R.map (·.1) := fun m => by
  obtain ⟨q, hq, e⟩ := List.mem_map.mp m
  have := (h.cell q hq).1
  rw [e, hp] at this
  cases this
/-- a new cell -/
theorem HI.new (h : HI H R D) (hp : H p = none) : HI (upd H p o) ((p, o) :: R) D := by
  have nm := h.notin hp
  refine ⟨by rw [List.map_cons]; exact List.nodup_cons.mpr ⟨nm, h.nd⟩, fun q hq => ?_, fun b w e => ?_⟩
  · rcases List.mem_cons.mp hq with e | hq
    · rw [e]
      exact ⟨upd_same, h.free hp⟩
    · have ne : q.1 ≠ p := fun e => nm (List.mem_map.mpr ⟨q, hq, e⟩)
      rw [upd_ne ne]
      exact h.cell q hq
  · rw [upd_ne (ne_of_none (h.sub b w e) hp)]
    exact h.sub b w e
/-- new data -/
theorem HI.newD (h : HI H R D) (hp : H p = none) : HI (upd H p o) R (upd D p o) := by
  have nm := h.notin hp
  refine ⟨h.nd, fun q hq => ?_, fun b w e => ?_⟩
  · have ne : q.1 ≠ p := fun e => nm (List.mem_map.mpr ⟨q, hq, e⟩)
    rw [upd_ne ne, upd_ne ne]
    exact h.cell q hq
  · by_cases e2 : b = p
    · rw [e2, upd_same] at e ⊢
      exact e
    · rw [upd_ne e2] at e ⊢
      exact h.sub b w e
/-- a cell is changed -/
theorem HI.set (h : HI H ((a, o) :: R) D) : HI (upd H a u) ((a, u) :: R) D := by
  have nd : a ∉ R.map (·.1) := (List.nodup_cons.mp h.nd).1
  refine ⟨h.nd, fun q hq => ?_, fun b w e => ?_⟩
  · rcases List.mem_cons.mp hq with e | hq
    · rw [e]
      exact ⟨upd_same, (h.cell (a, o) (List.mem_cons_self ..)).2⟩
    · have ne : q.1 ≠ a := fun e => nd (List.mem_map.mpr ⟨q, hq, e⟩)
      rw [upd_ne ne]
      exact h.cell q (List.mem_cons_of_mem _ hq)
  · have ne : b ≠ a := fun e2 => by
      rw [e2, (h.cell (a, o) (List.mem_cons_self ..)).2] at e
      cases e
    rw [upd_ne ne]
    exact h.sub b w e
/-- a cell becomes data -/
theorem HI.freeze (h : HI H ((a, o) :: R) D) : HI H R (upd D a o) := by
  have nd : a ∉ R.map (·.1) := (List.nodup_cons.mp h.nd).1
  refine ⟨(List.nodup_cons.mp h.nd).2, fun q hq => ?_, fun b w e => ?_⟩
  · have ne : q.1 ≠ a := fun e => nd (List.mem_map.mpr ⟨q, hq, e⟩)
    rw [upd_ne ne]
    exact h.cell q (List.mem_cons_of_mem _ hq)
  · by_cases e2 : b = a
    · rw [e2, upd_same] at e
      cases e
      rw [e2]
      exact (h.cell (a, o) (List.mem_cons_self ..)).1
    · rw [upd_ne e2] at e
      exact h.sub b w e
theorem HI.freezeX (h : HI H ((a, o) :: R) D) : Ex D (upd D a o) := Ex.new (h.cell (a, o) (List.mem_cons_self ..)).2
/-- forgetting a cell -/
theorem HI.drop (h : HI H (x :: R) D) : HI H R D := ⟨(List.nodup_cons.mp h.nd).2, fun q hq => h.cell q (List.mem_cons_of_mem _ hq), h.sub⟩
theorem HI.perm {R' : List (Addr × HO)} (h : HI H R D) (p : R.Perm R') : HI H R' D :=
  ⟨(p.map (·.1)).nodup_iff.mp h.nd, fun q hq => h.cell q (p.mem_iff.mpr hq), h.sub⟩
theorem HI.swap (h : HI H (x :: y :: R) D) : HI H (y :: x :: R) D := h.perm (List.Perm.swap ..)
theorem HI.up2 (h : HI H (x :: y :: z :: R) D) : HI H (z :: x :: y :: R) D := h.perm (by
  refine List.Perm.trans (List.Perm.cons x (List.Perm.swap z y R)) ?_
  exact List.Perm.swap z x (y :: R))
theorem HI.dn2 (h : HI H (x :: y :: z :: R) D) : HI H (y :: z :: x :: R) D := h.perm (by
  refine List.Perm.trans (List.Perm.swap y x (z :: R)) ?_
  exact List.Perm.cons y (List.Perm.swap z x R))
theorem HI.set2 (h : HI H (x :: (a, o) :: R) D) : HI (upd H a u) (x :: (a, u) :: R) D := h.swap.set.swap
theorem HI.set3 (h : HI H (x :: y :: (a, o) :: R) D) : HI (upd H a u) (x :: y :: (a, u) :: R) D := h.up2.set.dn2
end
/-- a new object, data from now on; a new cell -/
def AlD (o : HO) (H : Hp) (Q : VK) : Prop := ∀ p, H p = none → Q (.ref p) (upd H p o)
def AlM (o : HO) (H : Hp) (Q : VK) : Prop := ∀ p, H p = none → Q (.ref p) (upd H p o)
theorem al_D {H D : Hp} {R : List (Addr × HO)} {o : HO} {Q : VK} (h : HI H R D) (k : ∀ p H' D', HI H' R D' → Ex D D' → D' p = some o → Q (.ref p) H') : AlD o H Q :=
  fun p hp => k p _ _ (h.newD hp) (Ex.new (h.free hp)) upd_same
theorem al_M {H D : Hp} {R : List (Addr × HO)} {o : HO} {Q : VK} (h : HI H R D) (k : ∀ p H', HI H' ((p, o) :: R) D → Q (.ref p) H') : AlM o H Q :=
  fun p hp => k p _ (h.new hp)
theorem HI.up3 {H D : Hp} {R : List (Addr × HO)} {x y z u : Addr × HO} (h : HI H (x :: y :: z :: u :: R) D) : HI H (u :: x :: y :: z :: R) D := h.perm (by
  refine List.Perm.trans (List.Perm.cons x (List.Perm.cons y (List.Perm.swap u z R))) ?_
  refine List.Perm.trans (List.Perm.cons x (List.Perm.swap u y (z :: R))) ?_
  exact List.Perm.swap u x (y :: z :: R))
section
variable {K : PySem.W.Frag} {σ : L2.St} {H : Hp} {Q : VK} {ta tb tc te : TE} {D : Ends} {t u : TS} {tt tt2 : TT} {QB : Bool → Hp → Prop}
theorem st_seq (h : t { D with nx := u D } σ H) : tSeq t u D σ H := h
theorem st_asg {g : TG} (h : te σ H fun x H1 => g x σ H1 D.nx) : tAsg te g D σ H := h
theorem st_ret (h : te σ H D.rt) : tRet te D σ H := h
theorem st_if (h : tt σ H fun b H1 => if b = true then t D σ H1 else u D σ H1) : tIfS tt t u D σ H := h
theorem st_drop (h : te σ H fun _ H1 => D.nx σ H1) : tDrop te D σ H := h
theorem st_next (h : D.nx σ H) : tNext D σ H := h
theorem st_brk (h : D.bk σ H) : tBreak D σ H := h
theorem st_cont (h : D.ct σ H) : tCont D σ H := h
theorem sg_name {i : Nat} {v : V} {N : L2.St → Hp → Prop} (h : N (σ.set i (some v)) H) : gName i v σ H N := h
theorem sg_sub {to ti : TE} {s : TSet} {v : V} {N : L2.St → Hp → Prop} (h : to σ H fun o H1 => ti σ H1 fun i H2 => s o i v H2 fun H3 => N σ H3) : gSub to ti s v σ H N := h
theorem sg_tup {n : Nat} {gs : TGs} {a : Addr} {xs : List V} {N : L2.St → Hp → Prop} (hx : SqT K H a xs) (hl : xs.length = n) (h : gs xs σ H N) : gTup K n gs (.ref a) σ H N := ⟨a, xs, rfl, hx, hl, h⟩
theorem sg_nil {N : L2.St → Hp → Prop} (h : N σ H) : gNil [] σ H N := ⟨rfl, h⟩
theorem sg_cons {g : TG} {gs : TGs} {v : V} {r : List V} {N : L2.St → Hp → Prop} (h : g v σ H fun σ' H' => gs r σ' H' N) : gCons g gs (v :: r) σ H N := ⟨v, r, rfl, h⟩
theorem se_var {i : Nat} {v : V} (e : σ[i]? = some (some v)) (h : Q v H) : tVar i σ H Q := ⟨v, e, h⟩
theorem se_c {v : V} (h : Q v H) : tC v σ H Q := h
theorem se_op {r : R2} (h : ta σ H fun x H1 => tb σ H1 fun y H2 => r x y H2 Q) : tOp r ta tb σ H Q := h
theorem se_un {r : V → Hp → VK → Prop} (h : ta σ H fun x H1 => r x H1 Q) : tUn r ta σ H Q := h
theorem se_tup {t : TA} (h : t σ H fun xs H1 => xs.length ≤ sizeLine ∧ AlD (.tup xs) H1 Q) : tTup t σ H Q := h
theorem se_lst {t : TA} (h : t σ H fun xs H1 => xs.length ≤ sizeLine ∧ AlD (.lst xs) H1 Q) : tLst t σ H Q := h
/-- a list that will change -/
def tLstM (t : TA) : TE := tLst t
theorem se_lstM {t : TA} (h : t σ H fun xs H1 => xs.length ≤ sizeLine ∧ AlM (.lst xs) H1 Q) : tLstM t σ H Q := h
theorem sa_nil {N : List V → Hp → Prop} (h : N [] H) : tNil σ H N := h
theorem sa_cons {t : TA} {N : List V → Hp → Prop} (h : te σ H fun x H1 => t σ H1 fun xs H2 => N (x :: xs) H2) : tCons te t σ H N := h
theorem se_cb {r : List V → Hp → VK → Prop} {t : TA} (h : t σ H fun vs H1 => r vs H1 Q) : tCB r t σ H Q := h
theorem se_if (h : tt σ H fun b H1 => if b = true then ta σ H1 Q else tb σ H1 Q) : tIf tt ta tb σ H Q := h
theorem st_test (h : te σ H fun x H1 => ∃ k, x = .bl k ∧ QB k H1) : tTest te σ H QB := h
theorem st_B (h : te σ H fun x H1 => ∃ k, x = .bl k ∧ QB k H1) : tB te σ H QB := h
theorem st_bl {k : Bool} {N : Bool → Prop} (h : N k) : ∃ k', (V.bl k) = .bl k' ∧ N k' := ⟨k, rfl, h⟩
theorem st_and (h : tt σ H fun c H1 => if c = true then tt2 σ H1 QB else QB false H1) : tAnd tt tt2 σ H QB := h
theorem st_or (h : tt σ H fun c H1 => if c = true then QB true H1 else tt2 σ H1 QB) : tOr tt tt2 σ H QB := h
theorem st_not (h : tt σ H fun c H1 => QB (!c) H1) : tNot tt σ H QB := h
theorem ri_mk {C : Int → Int → Prop} {g : Int → Int → V} {i j : Int} (c : C i j) (h : Q (g i j) H) : rI C g (.int i) (.int j) H Q := ⟨i, j, rfl, rfl, c, h⟩
theorem ri0_mk {g : Int → Int → V} {i j : Int} (h : Q (g i j) H) : rI0 g (.int i) (.int j) H Q := ⟨i, j, rfl, rfl, h⟩
end
theorem if_dec {c A B : Prop} [Decidable c] (h1 : c → A) (h2 : ¬ c → B) : if decide c = true then A else B := by
  by_cases h : c
  · rw [if_pos (decide_eq_true h)]
    exact h1 h
  · rw [if_neg (by rw [decide_eq_false h]; decide)]
    exact h2 h
theorem if_yes {c A B : Prop} [Decidable c] (h : c) (a : A) : if decide c = true then A else B := by
  rw [if_pos (decide_eq_true h)]
  exact a
theorem if_no {c A B : Prop} [Decidable c] (h : ¬ c) (b : B) : if decide c = true then A else B := by
  rw [if_neg (by rw [decide_eq_false h]; decide)]
  exact b
theorem if_yesN {c A B : Prop} [Decidable c] (h : c) (b : B) : if (!decide c) = true then A else B := by
  rw [decide_eq_true h]
  exact iteF b
theorem if_noN {c A B : Prop} [Decidable c] (h : ¬ c) (a : A) : if (!decide c) = true then A else B := by
  rw [decide_eq_false h]
  exact iteT a
theorem small_ok {n : Nat} (h : n ≤ 1000000) : n ≤ sizeLine := Nat.le_trans h (by rw [sizeLine_eq]; decide)
theorem and_on {A B : Prop} (a : A) (b : B) : A ∧ B := ⟨a, b⟩
end Wk
set_option maxRecDepth 100000
set_option maxHeartbeats 4000000
namespace Wk
open PySem PySem.Spec PyProof.Rows L2
/-- the function object that stands at f -/
def fdOf (K : PySem.W.Frag) (f : Addr) : FuncData := match K.lookup f with
  | some ⟨_, _, .func fd, _⟩ => fd
  | _ => PySem.W.fnOf "" "" { posonlyargs := [], args := [], vararg := none, kwonlyargs := [], kw_defaults := [], kwarg := none, defaults := [] } [] { kind := .function, names := [], isGenerator := false, isCoroutine := false } .none .none .none .none none .none .none
/-- a def of the text, as it stands behind the top -/
def FD (K : PySem.W.Frag) (x qual : Str) (st : Stmt) (dvs : List V) (f : Addr) : Prop := FunD K x qual (defArgs st) (defBody st) (defScope st) dvs [] f (fdOf K f)
theorem fd_of {K : PySem.W.Frag} {x qual : Str} {st : Stmt} {dvs : List V} {f : Addr} {fd : FuncData} (F : FunD K x qual (defArgs st) (defBody st) (defScope st) dvs [] f fd) : FD K x qual st dvs f := by
  obtain ⟨oc, od, dV, kV, doc, pm, an, cdv, ct, osl, e, lk, r⟩ := F.ex
  have q : fdOf K f = fd := by
    unfold fdOf
    rw [lk]
  unfold FD
  rw [q]
  exact F
/-- the promise: FnOk's, where no container is about to be shown around -/
structure FnG (P : Program) (w : World) (K : PySem.W.Frag) (mg : Str → Option Value) (base : Heap) (k : Nat) (f : Addr) (ps : List Str) (sp : Sp) : Prop where
  len : ∀ vs H Q E, sp vs H Q E → vs.length = ps.length
  run : ∀ (A : Around) (outer : List Env) (s : Shared) (H : Hp) (args : Args) (us : List Value) (vs : List V) (Q : VK) (E : XK), A.guards = some [] → Room k A → Env0 P w K mg base A outer s H →
    BindsTo s (fdOf K f) args (ps.zip us) → Vals vs us → sp vs H Q E → codeAny (model P w) A (.call (.ref f) args) (CR (L2.CX P w) outer P w H s Q E) s
theorem FnG.mono {P : Program} {w : World} {K : PySem.W.Frag} {mg : Str → Option Value} {base : Heap} {j k : Nat} {f : Addr} {ps : List Str} {sp : Sp} (F : FnG P w K mg base j f ps sp) (h : j ≤ k) : FnG P w K mg base k f ps sp :=
  ⟨F.len, fun A outer s H args us vs Q E hg hr => F.run A outer s H args us vs Q E hg (hr.mono h)⟩
section
variable {P : Program} {w : World} {K : PySem.W.Frag} {mg : Str → Option Value} {base : Heap}
theorem FD.ok {x qual : Str} {st : Stmt} {dvs : List V} {f : Addr} {N ps : List Str} {k : Nat} {sp : Sp} (F : FD K x qual st dvs f) (S : FnScope N ps (defScope st)) (len : ∀ vs H Q E, sp vs H Q E → vs.length = ps.length)
    (hbody : ∀ (cdv : Value) (A : Around) (outer : List Env) (s : Shared) (H : Hp) (vs : List V) (Q : VK) (E : XK), A.guards = some [] → Room k (A.deeper (envOfC qual (defScope st) s.heap.objs.size f cdv)) → sp vs H Q E →
      ∃ t, PSs (cxOf (L2.CX P w) P w K mg base N qual (defScope st) f cdv A outer s H E) (defBody st) t ∧ t { nx := fun _ H' => Q .non H', rt := Q } (start N vs) H) : FnG P w K mg base (k + 1) f ps sp := by
  obtain ⟨oc, od, dV, kV, doc, pm, an, cdv, ct, osl, efd, lk, hcd, _, _⟩ := FunD.ex F
  refine ⟨len, fun A outer s H args us vs Q E hgu hr e0 hb r hsp => ?_⟩
  have hl := len _ _ _ _ hsp
  have KX : K.In s.heap := e0.mod.kin.keeps fun b o e => (e0.bs b o e).1
  have lim : s.heap.NoLimit := e0.mod.nolimit.keeps fun b o e => (e0.bs b o e).1
  rw [efd] at lk hb
  have hk : ∀ y ∈ ps.zip us, (defScope st).names.lookup y.1 = some .local ∨ ((defScope st).names.lookup y.1 = some .cell ∧ ((cellsFrom (s.heap.objs.size + 1) (defScope st).names []).lookup y.1).isSome = true) := fun ⟨n, v⟩ hy => by
    rcases S.par n (List.of_mem_zip hy).1 with q | q
    · exact .inl q
    · exact .inr ⟨q, PySem.W.cellsFrom_some _ _ _ (.inl q)⟩
  refine codeAny_call_function hr.depth (KX _ _ lk) rfl S.co S.gen rfl (PySem.W.codeRec_of KX hcd) (hb _ _ _ _ ?_)
  refine wpAny_newFunctionEnv_cells S.kind hk fun env he s1 x => ?_
  subst he
  refine ⟨lim.keeps x.toInCall.keep, codeAny_func ?_⟩
  obtain ⟨t, ht, hq⟩ := hbody cdv A outer s H vs Q E hgu (hr.deeper _) hsp
  have I : Inv (cxOf (L2.CX P w) P w K mg base N qual (defScope st) f cdv A outer s H E) [] (start N vs) H s1 := inv_start S hr.hd e0 hl r x
  refine wpAny_mono (ht.run [] s1 (start N vs) H _ I hq) (fun fl s' hs => ?_) fun e s' hs => hs
  cases fl with
  | ret u =>
    obtain ⟨v, σ', H', J, rv, q⟩ := hs
    exact ⟨v, H', J.os, J.bare, J.base, J.hok, rv, q⟩
  | next =>
    obtain ⟨σ', H', J, q⟩ := hs
    exact ⟨V.non, H', J.os, J.bare, J.base, J.hok, rfl, q⟩
  | brk =>
    obtain ⟨_, _, _, q⟩ := hs
    exact False.elim q
  | cont =>
    obtain ⟨_, _, _, q⟩ := hs
    exact False.elim q
end
/-- what a callee lets out is taken at the caller's slots -/
def PassG (X : Cx) (σ : L2.St) (E : XK) : Prop := ∀ (pins : List (Addr × Obj)) (H : Hp) (s : Shared) (e : Value) (s' : Shared), Inv X pins σ H s → L2.CX X.prog X.w X.stack H s E e s' → X.xe e s'
theorem pass_none {X : Cx} {σ : L2.St} : PassG X σ E0 := fun _ _ _ _ _ _ h => by
  obtain ⟨_, _, _, _, _, _, _, _, _, _, _, _, z⟩ := h
  exact z.elim
theorem pass_takes {X : Cx} {W : L2.WX} {σ : L2.St} (tk : Takes X W) : PassG X σ (fun cls d H => W cls d σ H) :=
  fun _ _ _ e s' I c => tk e s' (XE.of_call I (fun _ _ _ h => h) c)
section
variable {X : Cx} {k : Nat} {f C : Addr} {ps ks : List Str} {sp : Sp} {dvs : List V} {ds : List Value} {E : L2.St → XK} {x m : Str} {p pos apos : Pos} {e o : Expr} {es : List Expr} {ta : TE} {t tk : TA} {kws : List Keyword}
theorem run_fnG {pins : List (Addr × Obj)} {σ : L2.St} {H : Hp} {s : Shared} {Q : VK} {us : List Value} {kw : List (Str × Value)} {ws : List Value} {zs : List V} (F : FnG X.prog X.w X.K X.mg X.base k f ps sp) (hgu : X.A.guards = some []) (hr : Room k X.A)
    (hx : PassG X σ (E σ)) (I : Inv X pins σ H s) (hb : BindsTo s (fdOf X.K f) ⟨us, kw⟩ (ps.zip ws)) (r : Vals zs ws) (h : sp zs H Q (E σ)) : wpAny (model X.prog X.w) X.A (call (.ref f) us kw) (EP X pins σ Q) X.xe s := by
  refine wpAny_call (codeAny_mono (F.run X.A X.stack s H ⟨us, kw⟩ ws zs Q (E σ) hgu hr I.env0 hb r h) fun r s' hq => ?_)
  cases r with
  | error e => exact hx pins H s e s' I hq
  | ok fl =>
    cases fl with
    | ret u => exact I.after hq
    | next => exact False.elim hq
    | brk => exact False.elim hq
    | cont => exact False.elim hq
def gCall (sp : Sp) (dvs : List V) (E : L2.St → XK) (t : TA) : TE := fun σ H Q => t σ H fun vs H1 => sp (vs ++ dvs) H1 Q (E σ)
theorem bind_of {ds : List Value} {dvs : List V} {s : Shared} {H : Hp} {Q : VK} {E : XK} {us : List Value} {vs : List V} (F : FnG X.prog X.w X.K X.mg X.base k f ps sp) (hb : Binds X.K (fdOf X.K f) ps ds) (hd : Vals dvs ds) (r : Vals vs us) (KX : X.K.In s.heap) (h : sp (vs ++ dvs) H Q E) :
    BindsTo s (fdOf X.K f) ⟨us, []⟩ (ps.zip (us ++ ds)) := by
  refine hb s us KX ?_
  rw [← (r.append hd).length]
  exact F.len _ _ _ _ h
theorem ge_call (F : FnG X.prog X.w X.K X.mg X.base k f ps sp) (hgu : X.A.guards = some []) (hr : Room k X.A) (hg : Gl X x) (hm : X.mg x = some (.ref f)) (hk : PySem.W.keepIn X.K (.ref f) = true) (hb : Binds X.K (fdOf X.K f) ps ds) (hd : Vals dvs ds) (hx : ∀ σ, PassG X σ (E σ))
    (ha : PA X (e :: es) t) (hdb : (x == ("__debug__" : Str)) = false := by decide) (he : starEach (e :: es) X.env = (false, eval e X.env) :: starEach es X.env := by rfl) (hpl : (backTo pos (starEach es X.env)).any (·.1) = false := by rfl) :
    PE X (.Call (.Name x p) (e :: es) [] pos) (gCall sp dvs E t) := by
  refine ⟨fun pins s σ H Q I h => ?_⟩
  refine wpAny_Call_Name_kw (ld_glob I hg hm ?_ hdb)
  refine PySem.W.callWith_K (h₀ := X.base) I.ok.mod.kin hk (thn (ha.run pos pins s σ H _ I h) fun us s1 ⟨vs, H1, I1, r, q⟩ => ⟨I1.kIn, ?_⟩) he hpl
  exact run_fnG F hgu hr (hx σ) I1 (bind_of F hb hd r I1.kIn q) (r.append hd) q
def gMeth (C : Addr) (m : Str) (sp : Sp) (dvs : List V) (E : L2.St → XK) (ta : TE) (t : TA) : TE := fun σ H Q => ta σ H fun x H1 => ∃ a dx fs, x = .ref a ∧ H1 a = some (.ins C dx fs) ∧ fs.lookup m = none ∧
  t σ H1 fun vs H2 => sp (x :: (vs ++ dvs)) H2 Q (E σ)
theorem ge_meth {pl : Sem Bool} (he : PE X o ta) (c : Cls X.K C) (hm : Meth X.K C m f) (F : FnG X.prog X.w X.K X.mg X.base k f ps sp) (hgu : X.A.guards = some []) (hr : Room k X.A) (hb : Binds X.K (fdOf X.K f) ps ds) (hd : Vals dvs ds) (hx : ∀ σ, PassG X σ (E σ)) (ha : PA X (e :: es) t)
    (hst : starEach (e :: es) X.env = (false, eval e X.env) :: starEach es X.env := by rfl) (hpl : (backTo pos (starEach es X.env)).any (·.1) = false := by rfl)
    (ht : eval (.Call (.Attribute o m apos) (e :: es) [] pos) X.env = (do
      let ov ← eval o X.env
      standAt apos.atName
      let (f, first) ← holding [ov] (getMethod ov m pl)
      callWith pos f first (backTo pos (starEach (e :: es) X.env)) (backToKw pos (keywordEach [] X.env))) := by rfl) :
    PE X (.Call (.Attribute o m apos) (e :: es) [] pos) (gMeth C m sp dvs E ta t) := by
  refine ⟨fun pins s σ H Q I h => ?_⟩
  refine PySem.W.methodCall_KW (pl := pl) (thn (he.run pins s σ H _ I h) fun u s1 ⟨x, H1, I1, rx, a, dx, fs, ex, ea, l, q⟩ => ?_) ht
  subst ex
  obtain rfl : u = Value.ref a := rx
  refine getmeth_ok I1 ea c hm l ?_
  refine PySem.W.callWith_K (first := [.ref a]) (h₀ := X.base) I.ok.mod.kin hm.kp (thn (ha.run pos pins s1 σ H1 _ I1 q) fun us s2 ⟨vs, H2, I2, r, q2⟩ => ⟨I2.kIn, ?_⟩) hst hpl
  have r2 : Vals (V.ref a :: vs) (Value.ref a :: us) := .cons rfl r
  exact run_fnG F hgu hr (hx σ) I2 (bind_of F hb hd r2 I2.kIn q2) (r2.append hd) q2
theorem ge_meth0 {pl : Sem Bool} (he : PE X o ta) (c : Cls X.K C) (hm : Meth X.K C m f) (F : FnG X.prog X.w X.K X.mg X.base k f ps sp) (hgu : X.A.guards = some []) (hr : Room k X.A) (hb : Binds X.K (fdOf X.K f) ps ds) (hd : Vals dvs ds) (hx : ∀ σ, PassG X σ (E σ))
    (ht : eval (.Call (.Attribute o m apos) [] [] pos) X.env = (do
      let ov ← eval o X.env
      standAt apos.atName
      let (f, first) ← holding [ov] (getMethod ov m pl)
      callWith pos f first (backTo pos (starEach [] X.env)) (backToKw pos (keywordEach [] X.env))) := by rfl) :
    PE X (.Call (.Attribute o m apos) [] [] pos) (gMeth C m sp dvs E ta tNil) := by
  refine ⟨fun pins s σ H Q I h => ?_⟩
  refine PySem.W.methodCall_KW (pl := pl) (thn (he.run pins s σ H _ I h) fun u s1 ⟨x, H1, I1, rx, a, dx, fs, ex, ea, l, q⟩ => ?_) ht
  subst ex
  obtain rfl : u = Value.ref a := rx
  refine getmeth_ok I1 ea c hm l ?_
  have r2 : Vals [V.ref a] [Value.ref a] := .cons rfl .nil
  have q2 : sp ([V.ref a] ++ dvs) H1 Q (E σ) := q
  exact PySem.W.callWith_K0 (first := [.ref a]) I1.kIn hm.kp (run_fnG F hgu hr (hx σ) I1 (bind_of F hb hd r2 I1.kIn q2) (r2.append hd) q2)
def gMake (C : Addr) (sp : Sp) (dvs : List V) (E : L2.St → XK) (t : TA) : TE := fun σ H Q => t σ H fun vs H1 => ∀ x dx, H1 x = none → H1 dx = none → dx ≠ x →
  sp (.ref x :: (vs ++ dvs)) (upd (upd H1 dx (.own x)) x (.ins C dx [])) (fun v H2 => v = .non ∧ Q (.ref x) H2) (E σ)
theorem make_guards {A : Around} {C : Addr} {us : List Value} {kw : List (Str × Value)} (h : A.guards = some []) : (A.under (.builtin "type.__call__" ⟨.ref C :: us, kw⟩)).guards = some [] := by
  simp [Around.under, Code.guards, Code.isGuard, guardIds, pushGuards, h]
theorem run_makeG {pins : List (Addr × Obj)} {σ : L2.St} {H : Hp} {s : Shared} {Q : VK} {us : List Value} {kw : List (Str × Value)} (M : Mk X.K C f) (F : FnG X.prog X.w X.K X.mg X.base k f ps sp) (hgu : X.A.guards = some []) (hr : Room (k + 1) X.A)
    (hx : PassG X σ (E σ)) (I : Inv X pins σ H s) (zs : V → List V) (ws : Value → List Value) (hb : ∀ (y : Addr) (s' : Shared), X.K.In s'.heap → BindsTo s' (fdOf X.K f) ⟨Value.ref y :: us, kw⟩ (ps.zip (ws (.ref y)))) (r : ∀ y, Vals (zs (.ref y)) (ws (.ref y)))
    (h : ∀ x dx, H x = none → H dx = none → dx ≠ x → sp (zs (.ref x)) (upd (upd H dx (.own x)) x (.ins C dx [])) (fun v H2 => v = .non ∧ Q (.ref x) H2) (E σ)) :
    wpAny (model X.prog X.w) X.A (call (.ref C) us kw) (EP X pins σ Q) X.xe s := by
  have hq := h (s.heap.objs.size + 1) s.heap.objs.size (I.hok.fresh (Nat.le_succ _)) (I.hok.fresh (Nat.le_refl _)) (Nat.ne_of_lt (Nat.lt_succ_self _))
  have I2 := Inv.made (C := C) I
  refine wpAny_call (make_map (f := f) I.kIn M.makes M.init (beq_iff_eq.mp M.fn) (codeAny_mono (F.run _ X.stack _ _ ⟨Value.ref (s.heap.objs.size + 1) :: us, kw⟩ _ _ _ (E σ) (make_guards hgu) (hr.make C us kw)
    (I2.env0.make C us kw) (hb _ _ I2.kIn) (r _) hq) fun r s' hq' => ?_))
  cases r with
  | error e => exact hx pins _ _ e s' I2 hq'
  | ok fl =>
    cases fl with
    | ret u =>
      obtain ⟨v, H', I3, rv, ev, q3⟩ := I2.after hq'
      subst ev
      exact ⟨rv, ⟨V.ref (s.heap.objs.size + 1), H', I3, rfl, q3⟩⟩
    | next => exact False.elim hq'
    | brk => exact False.elim hq'
    | cont => exact False.elim hq'
end
end Wk
set_option maxRecDepth 100000
set_option maxHeartbeats 4000000
namespace Wk
open PySem PySem.Spec PyProof.Rows L2
def kD : Key → PyData
  | .inl i => .int i
  | .inr x => .str x
mutual
/-- the value v stands for the tree -/
inductive Rep (H : Hp) : V → PyData → Prop
  | non : Rep H .non .none
  | bl (b : Bool) : Rep H (.bl b) (.bool b)
  | int (i : Int) : Rep H (.int i) (.int i)
  | str (x : Str) : Rep H (.str x) (.str x)
  | lst {a : Addr} {vs : List V} {ds : List PyData} : H a = some (.lst vs) → RepL H vs ds → Rep H (.ref a) (.list ds)
  | tup {a : Addr} {vs : List V} {ds : List PyData} : H a = some (.tup vs) → RepL H vs ds → Rep H (.ref a) (.tuple ds)
  | dict {a : Addr} {kvs : List (Key × V)} {ds : List (PyData × PyData)} : H a = some (.dK kvs) → RepK H kvs ds → Rep H (.ref a) (.dict ds)
inductive RepL (H : Hp) : List V → List PyData → Prop
  | nil : RepL H [] []
  | cons {v : V} {vs : List V} {d : PyData} {ds : List PyData} : Rep H v d → RepL H vs ds → RepL H (v :: vs) (d :: ds)
inductive RepK (H : Hp) : List (Key × V) → List (PyData × PyData) → Prop
  | nil : RepK H [] []
  | cons {k : Key} {v : V} {kvs : List (Key × V)} {d : PyData} {ds : List (PyData × PyData)} : Rep H v d → RepK H kvs ds → RepK H ((k, v) :: kvs) ((kD k, d) :: ds)
end
mutual
theorem Rep.mono {H H' : Hp} (e : Ex H H') : ∀ {v : V} {d : PyData}, Rep H v d → Rep H' v d
  | _, _, .non => .non
  | _, _, .bl b => .bl b
  | _, _, .int i => .int i
  | _, _, .str x => .str x
  | _, _, .lst h l => .lst (e _ _ h) (RepL.mono e l)
  | _, _, .tup h l => .tup (e _ _ h) (RepL.mono e l)
  | _, _, .dict h l => .dict (e _ _ h) (RepK.mono e l)
theorem RepL.mono {H H' : Hp} (e : Ex H H') : ∀ {vs : List V} {ds : List PyData}, RepL H vs ds → RepL H' vs ds
  | _, _, .nil => .nil
  | _, _, .cons h l => .cons (Rep.mono e h) (RepL.mono e l)
theorem RepK.mono {H H' : Hp} (e : Ex H H') : ∀ {vs : List (Key × V)} {ds : List (PyData × PyData)}, RepK H vs ds → RepK H' vs ds
  | _, _, .nil => .nil
  | _, _, .cons h l => .cons (Rep.mono e h) (RepK.mono e l)
end
theorem HI.rep {H D : Hp} {R : List (Addr × HO)} {v : V} {d : PyData} (h : HI H R D) (r : Rep D v d) : Rep H v d := r.mono h.sub
theorem RepL.length {H : Hp} : ∀ {vs : List V} {ds : List PyData}, RepL H vs ds → vs.length = ds.length
  | _, _, .nil => rfl
  | _, _, .cons _ l => congrArg Nat.succ (RepL.length l)
theorem RepL.get {H : Hp} : ∀ {vs : List V} {ds : List PyData} {i : Nat} {v : V}, RepL H vs ds → vs[i]? = some v → ∃ d, ds[i]? = some d ∧ Rep H v d
  | _, _, _, _, .nil, e => by simp at e
  | _, _, 0, _, .cons h _, e => by
    simp at e
    subst e
    exact ⟨_, rfl, h⟩
  | _, _, i + 1, _, .cons _ l, e => by
    obtain ⟨d, h1, h2⟩ := RepL.get (i := i) l (by simpa using e)
    exact ⟨d, by simpa using h1, h2⟩
theorem RepL.getD {H : Hp} : ∀ {vs : List V} {ds : List PyData} {i : Nat} {d : PyData}, RepL H vs ds → ds[i]? = some d → ∃ v, vs[i]? = some v ∧ Rep H v d
  | _, _, _, _, .nil, e => by simp at e
  | _, _, 0, _, .cons h _, e => by
    simp at e
    subst e
    exact ⟨_, rfl, h⟩
  | _, _, i + 1, _, .cons _ l, e => by
    obtain ⟨d, h1, h2⟩ := RepL.getD (i := i) l (by simpa using e)
    exact ⟨d, by simpa using h1, h2⟩
theorem RepL.append {H : Hp} : ∀ {vs ws : List V} {ds es : List PyData}, RepL H vs ds → RepL H ws es → RepL H (vs ++ ws) (ds ++ es)
  | _, _, _, _, .nil, r => r
  | _, _, _, _, .cons h l, r => .cons h (RepL.append l r)
theorem RepL.take {H : Hp} : ∀ {vs : List V} {ds : List PyData} (n : Nat), RepL H vs ds → RepL H (vs.take n) (ds.take n)
  | _, _, 0, _ => .nil
  | _, _, _ + 1, .nil => .nil
  | _, _, n + 1, .cons h l => .cons h (RepL.take n l)
theorem RepL.drop {H : Hp} : ∀ {vs : List V} {ds : List PyData} (n : Nat), RepL H vs ds → RepL H (vs.drop n) (ds.drop n)
  | _, _, 0, r => r
  | _, _, _ + 1, .nil => .nil
  | _, _, n + 1, .cons _ l => RepL.drop n l
theorem RepL.snoc {H : Hp} {vs : List V} {ds : List PyData} {v : V} {d : PyData} (l : RepL H vs ds) (h : Rep H v d) : RepL H (vs ++ [v]) (ds ++ [d]) := l.append (.cons h .nil)
section
variable {X : Cx} {pins : List (Addr × Obj)} {σ : L2.St} {H : Hp} {s : Shared}
/-- the written part holds the table of modules -/
def HasSys (K : PySem.W.Frag) : Prop := ∃ o, K.lookup sysModules = some o
theorem not_sys (I : Inv X pins σ H s) (hs : HasSys X.K) {a : Addr} {o : HO} (h : H a = some o) : a ≠ sysModules := fun e => by
  obtain ⟨ob, ho⟩ := hs
  have z := (I.bs sysModules ob (I.ok.mod.kin _ _ ho)).2
  rw [e, z] at h
  cases h
theorem reads_kd {h : Heap} : ∀ {k : Key} {u : Value}, keyIs k u = true → ∃ as, Reads h u (kD k) as ∧ sysModules ∉ as
  | .inl i, u, e => by
    obtain ⟨t, rfl⟩ := Value.isInt_shape (k := i) (v := u) e
    exact ⟨_, Reads.int i t, by simp⟩
  | .inr x, u, e => by
    obtain ⟨t, rfl⟩ := Value.isStrOf_shape (x := x) (v := u) e
    exact ⟨_, Reads.str x t, by simp⟩
mutual
theorem Rep.reads (I : Inv X pins σ H s) (hs : HasSys X.K) : ∀ {v : V} {d : PyData} {u : Value}, Rep H v d → RelV v u → ∃ as, Reads s.heap u d as ∧ sysModules ∉ as
  | _, _, _, .non, r => by
    cases r
    exact ⟨_, Reads.none, by simp⟩
  | _, _, _, .bl b, r => by
    cases r
    exact ⟨_, Reads.bool b, by simp⟩
  | _, _, _, .int i, r => by
    obtain ⟨t, rfl⟩ := r
    exact ⟨_, Reads.int i t, by simp⟩
  | _, _, _, .str x, r => by
    obtain ⟨t, rfl⟩ := r
    exact ⟨_, Reads.str x t, by simp⟩
  | _, _, _, .lst h l, r => by
    cases r
    obtain ⟨its, rv, ⟨o, n, ho, hc, _, hd⟩, _⟩ := I.list (SqL.of h)
    obtain ⟨as, hr, hn⟩ := RepL.reads I hs l rv
    exact ⟨_, Reads.list ho hc hd hr, by
      rw [List.mem_cons]
      exact not_or.mpr ⟨(not_sys I hs h).symm, hn⟩⟩
  | _, _, _, .tup h l, r => by
    cases r
    obtain ⟨its, rv, ⟨o, ho, hc, n, hd⟩, _⟩ := I.tuple (SqT.of h)
    obtain ⟨as, hr, hn⟩ := RepL.reads I hs l rv
    exact ⟨_, Reads.tuple ho hc hd hr, hn⟩
  | _, _, _, .dict h l, r => by
    cases r
    obtain ⟨_, _, vs, rv, o, es, ep, ho, hx, hd, _, hp, _⟩ := I.hok _ _ h
    obtain ⟨as, bs, h1, h2, n1, n2⟩ := RepK.reads I hs l rv hp
    exact ⟨_, Reads.dict ho hx.1 hd h1 h2, by
      rw [List.cons_append, List.mem_cons, List.mem_append]
      exact not_or.mpr ⟨(not_sys I hs h).symm, not_or.mpr ⟨n1, n2⟩⟩⟩
theorem RepL.reads (I : Inv X pins σ H s) (hs : HasSys X.K) : ∀ {vs : List V} {ds : List PyData} {us : List Value}, RepL H vs ds → Vals vs us → ∃ as, ReadsAll s.heap us ds as ∧ sysModules ∉ as
  | _, _, _, .nil, r => by
    cases r
    exact ⟨_, ReadsAll.nil, by simp⟩
  | _, _, _, .cons h l, r => by
    cases r with
    | cons r1 r2 =>
      obtain ⟨as, q1, n1⟩ := Rep.reads I hs h r1
      obtain ⟨bs, q2, n2⟩ := RepL.reads I hs l r2
      exact ⟨_, ReadsAll.cons q1 q2, by
        rw [List.mem_append]
        exact not_or.mpr ⟨n1, n2⟩⟩
theorem RepK.reads (I : Inv X pins σ H s) (hs : HasSys X.K) : ∀ {kvs : List (Key × V)} {ds : List (PyData × PyData)} {us : List (Key × Value)} {es : List DictEntry}, RepK H kvs ds → KV kvs us → Pairs (mixKind X.prog X.w) es us →
    ∃ as bs, ReadsAll s.heap (es.map (·.key)) (ds.map (·.1)) as ∧ ReadsAll s.heap (es.map (·.val)) (ds.map (·.2)) bs ∧ sysModules ∉ as ∧ sysModules ∉ bs
  | _, _, _, _, .nil, r, p => by
    cases r
    cases p
    exact ⟨_, _, ReadsAll.nil, ReadsAll.nil, by simp, by simp⟩
  | _, _, _, _, .cons h l, r, p => by
    cases r with
    | cons r1 r2 =>
      cases p with
      | cons p1 p2 p3 =>
        obtain ⟨e1, e2⟩ := r1
        obtain ⟨as, bs, q1, q2, n1, n2⟩ := RepK.reads I hs l r2 p3
        rw [← e1] at p1
        obtain ⟨a1, g1, m1⟩ := reads_kd (h := s.heap) (show keyIs _ _ = true from p1)
        rw [← p2] at e2
        obtain ⟨a2, g2, m2⟩ := Rep.reads I hs h e2
        exact ⟨_, _, ReadsAll.cons g1 q1, ReadsAll.cons g2 q2, by
          rw [List.mem_append]
          exact not_or.mpr ⟨m1, n1⟩, by
          rw [List.mem_append]
          exact not_or.mpr ⟨m2, n2⟩⟩
end
end
/-- repr(x) -/
def rRepr : List V → Hp → VK → Prop := fun xs H Q => ∃ x d, xs = [x] ∧ Rep H x d ∧ d.showable = true ∧ d.shown.length ≤ sizeLine ∧ d.depth ≤ 60 ∧ Q (.str d.shown) H
theorem call_repr {X : Cx} {k : Nat} (hgu : X.A.guards = some []) (hr : Room k X.A) (hs : HasSys X.K) : CallR X (.builtin "repr") rRepr := by
  intro pins s σ H xs us Q I r h
  obtain ⟨x, d, rfl, hx, h1, h2, h3, q⟩ := h
  obtain ⟨u, rfl, ru⟩ := vals1 r
  have hu := hr.units
  have fin : ∀ h' t tk, (∀ b o, s.heap.get? b = some o → h'.get? b = some o) → EP X pins σ Q (.str d.shown t) { s with heap := h', toks := tk } := fun h' t tk k => ⟨.str d.shown, H, I.kept k, ⟨_, rfl⟩, q⟩
  cases hx with
  | non => cases ru; exact P.repr_of_none (fin s.heap _ _ fun _ _ e => e)
  | bl b => cases ru; exact P.repr_of_bool (fin s.heap _ _ fun _ _ e => e)
  | int i =>
    obtain ⟨t, rfl⟩ := ru
    exact P.repr_of_int (by simpa [PyData.showable] using h1) (fin s.heap _ _ fun _ _ e => e)
  | str z =>
    obtain ⟨t, rfl⟩ := ru
    exact P.repr_of_str (fin s.heap _ _ fun _ _ e => e) h2
  | lst e l =>
    obtain ⟨as, hrd, hn⟩ := Rep.reads I hs (.lst e l) ru
    cases ru
    exact repr_of_reads' hrd h1 (fun _ => hn) hgu (by omega) (fun _ _ e => e) (fun h' u tk k => fin h' u tk k) h2
  | tup e l =>
    obtain ⟨as, hrd, hn⟩ := Rep.reads I hs (.tup e l) ru
    cases ru
    exact repr_of_reads' hrd h1 (fun _ => hn) hgu (by omega) (fun _ _ e => e) (fun h' u tk k => fin h' u tk k) h2
  | dict e l =>
    obtain ⟨as, hrd, hn⟩ := Rep.reads I hs (.dict e l) ru
    cases ru
    exact repr_of_reads' hrd h1 (fun _ => hn) hgu (by omega) (fun _ _ e => e) (fun h' u tk k => fin h' u tk k) h2
end Wk
set_option maxRecDepth 100000
set_option maxHeartbeats 4000000
namespace Wk
open PySem PySem.Spec PyProof.Rows L2
inductive RAdd : V → V → Hp → VK → Prop
  | int {i j : Int} {H : Hp} {Q : VK} : Q (.int (i + j)) H → RAdd (.int i) (.int j) H Q
  | str {a b : Str} {H : Hp} {Q : VK} : a.length + b.length ≤ sizeLine → Q (.str (a ++ b)) H → RAdd (.str a) (.str b) H Q
  | lst {p q : Addr} {xs ys : List V} {H : Hp} {Q : VK} : H p = some (.lst xs) → H q = some (.lst ys) → xs.length + ys.length ≤ sizeLine → AlD (.lst (xs ++ ys)) H Q → RAdd (.ref p) (.ref q) H Q
  | tup {p q : Addr} {xs ys : List V} {H : Hp} {Q : VK} : H p = some (.tup xs) → H q = some (.tup ys) → xs ≠ [] → ys ≠ [] → xs.length + ys.length ≤ sizeLine → AlD (.tup (xs ++ ys)) H Q → RAdd (.ref p) (.ref q) H Q
  | tup0 {p q : Addr} {xs : List V} {H : Hp} {Q : VK} : H p = some (.tup xs) → H q = some (.tup []) → xs ≠ [] → xs.length ≤ sizeLine → Q (.ref p) H → RAdd (.ref p) (.ref q) H Q
section
variable {X : Cx}
theorem op_addU : OpR X (binaryOp .Add) (RAdd) := by
  intro pins s σ H x y v u Q I rx ry h
  cases h with
  | int q => exact op_add pins s σ H _ _ v u Q I rx ry ⟨_, _, rfl, rfl, q⟩
  | str hl q => exact op_add_str pins s σ H _ _ v u Q I rx ry ⟨_, _, rfl, rfl, hl, q⟩
  | lst h1 h2 hl q => exact op_cat pins s σ H _ _ v u Q I rx ry ⟨_, _, _, _, rfl, rfl, h1, h2, hl, q⟩
  | tup h1 h2 n1 n2 hl q => exact op_catT pins s σ H _ _ v u Q I rx ry ⟨_, _, _, _, rfl, rfl, SqT.of h1, SqT.of h2, n1, hl, fun e => absurd e n2, fun _ => q⟩
  | tup0 h1 h2 n1 hl q => exact op_catT pins s σ H _ _ v u Q I rx ry ⟨_, _, _, _, rfl, rfl, SqT.of h1, SqT.of h2, n1, hl, fun _ => q, fun n => absurd rfl n⟩
end
/-- a text, written n times -/
def strRep (a : Str) (n : Nat) : Str := ⟨(List.replicate n a.cps).foldl (· ++ ·) #[]⟩
inductive RMul : V → V → Hp → VK → Prop
  | str {a : Str} {k : Int} {H : Hp} {Q : VK} : 1 ≤ a.length → a.length ≤ 1000 → 1 ≤ k → k ≤ 1000 → Q (.str (strRep a k.toNat)) H → RMul (.str a) (.int k) H Q
  | int {i j : Int} {H : Hp} {Q : VK} : CMul i j → Q (.int (i * j)) H → RMul (.int i) (.int j) H Q
  | lst {p : Addr} {k : Int} {xs : List V} {H : Hp} {Q : VK} : H p = some (.lst xs) → -(2 ^ 63) ≤ k → k < 2 ^ 63 → xs.length * k.toNat ≤ sizeLine → AlD (.lst (List.replicate k.toNat xs).flatten) H Q → RMul (.ref p) (.int k) H Q
section
variable {X : Cx}
theorem op_mulU : OpR X (binaryOp .Mult) (RMul) := by
  intro pins s σ H x y v u Q I rx ry h
  cases h with
  | @str a k _ _ a0 a1 k0 k1 q =>
    obtain ⟨t, rfl⟩ := rx
    obtain ⟨t', rfl⟩ := ry
    have e1 : decide (k < -(2 ^ 63 : Int)) = false := decide_eq_false (by omega)
    have e2 : decide (k ≥ 2 ^ 63) = false := decide_eq_false (by omega)
    have hm : a.length * k.toNat ≤ 1000 * 1000 := Nat.mul_le_mul a1 (by omega)
    refine PySem.P.mul_str (by rw [e1, e2]; rfl) (fun _ _ => ?_) (fun _ _ => ?_) ?_
    · have : (1000 : Int) ≤ (2 ^ 63 - 1) / k := by
        refine Int.le_ediv_of_mul_le (by omega) ?_
        have : 1000 * k ≤ 1000 * 1000 := by omega
        omega
      omega
    · show decide (a.length * k.toNat > sizeLine) = false
      rw [sizeLine_eq]
      exact decide_eq_false (by omega)
    · rw [if_neg (by omega)]
      by_cases h1 : k = 1
      · subst h1
        have e : strRep a (Int.toNat 1) = a := by
          show (⟨#[] ++ a.cps⟩ : Str) = a
          obtain ⟨x⟩ := a
          simp
        rw [e] at q
        exact ⟨.str a, H, I, ⟨t, rfl⟩, q⟩
      · have e3 : (k == 1 || a.length == 0) = false := by
          rw [Bool.or_eq_false_iff]
          exact ⟨beq_eq_false_iff_ne.mpr h1, beq_eq_false_iff_ne.mpr (by omega)⟩
        rw [e3]
        have hl : (strRep a k.toNat).length ≤ sizeLine := by
          have : ∀ (n : Nat) (acc : Array Nat), ((List.replicate n a.cps).foldl (· ++ ·) acc).size = acc.size + a.length * n := by
            intro n
            induction n with
            | zero => intro acc; simp
            | succ n ih =>
              intro acc
              rw [List.replicate_succ, List.foldl_cons, ih, Array.size_append, Nat.mul_succ]
              have : a.cps.size = a.length := rfl
              omega
          show ((List.replicate k.toNat a.cps).foldl (· ++ ·) #[]).size ≤ sizeLine
          rw [this, sizeLine_eq]
          simp
          omega
        exact ⟨hl, .str _, H, I.tok _, ⟨_, rfl⟩, q⟩
  | int hc q => exact op_mul pins s σ H _ _ v u Q I rx ry ⟨_, _, rfl, rfl, hc, q⟩
  | lst h1 h2 h3 hl q => exact op_rep pins s σ H _ _ v u Q I rx ry ⟨_, _, _, rfl, rfl, h1, h2, h3, hl, q⟩
end
mutual
theorem Rep.dp {K : PySem.W.Frag} {H : Hp} : ∀ {v : V} {d : PyData}, Rep H v d → d.hasDict = false → Dp K H v d
  | _, _, .non, _ => .non
  | _, _, .bl b, _ => .bl b
  | _, _, .int i, _ => .int i
  | _, _, .str x, _ => .str x
  | _, _, .lst h l, n => .lst (SqL.of h) (RepL.dp l (by simpa [PyData.hasDict] using n))
  | _, _, .tup h l, n => .tup (SqT.of h) (RepL.dp l (by simpa [PyData.hasDict] using n))
  | _, _, .dict h l, n => by simp [PyData.hasDict] at n
theorem RepL.dp {K : PySem.W.Frag} {H : Hp} : ∀ {vs : List V} {ds : List PyData}, RepL H vs ds → PyData.hasDictAll ds = false → DpAll K H vs ds
  | _, _, .nil, _ => .nil
  | _, _, .cons h l, n => by
    simp only [PyData.hasDictAll, Bool.or_eq_false_iff] at n
    exact .cons (Rep.dp h n.1) (RepL.dp l n.2)
end
inductive REq (neg : Bool) : V → V → Hp → VK → Prop
  | scal {x y : V} {H : Hp} {Q : VK} : scal x y = true → Q (.bl (if neg then !decide (x = y) else decide (x = y))) H → REq neg x y H Q
  | dat {x y : V} {d e : PyData} {H : Hp} {Q : VK} : Rep H x d → Rep H y e → d.hasDict = false → e.hasDict = false → SeqAt.shaped d = true → SeqAt.shaped e = true → Q (.bl (if neg then !PyData.eqv d e else PyData.eqv d e)) H → REq neg x y H Q
section
variable {X : Cx}
theorem op_eqU (hu : X.A.units + 64 < cLine) : OpR X (compareOp .Eq) (REq false) := by
  intro pins s σ H x y v u Q I rx ry h
  cases h with
  | scal h1 q => exact op_eq pins s σ H _ _ v u Q I rx ry ⟨h1, q⟩
  | dat h1 h2 n1 n2 s1 s2 q => exact op_eqD hu pins s σ H _ _ v u Q I rx ry ⟨_, _, h1.dp n1, h2.dp n2, s1, s2, q⟩
theorem op_neU (hu : X.A.units + 64 < cLine) : OpR X (compareOp .NotEq) (REq true) := by
  intro pins s σ H x y v u Q I rx ry h
  cases h with
  | scal h1 q => exact op_ne pins s σ H _ _ v u Q I rx ry ⟨h1, q⟩
  | dat h1 h2 n1 n2 s1 s2 q => exact op_neD hu pins s σ H _ _ v u Q I rx ry ⟨_, _, h1.dp n1, h2.dp n2, s1, s2, q⟩
end
inductive RIn (neg : Bool) : V → V → Hp → VK → Prop
  | sign {c : Nat} {z : Str} {H : Hp} {Q : VK} : Q (.bl (if neg then !decide (c ∈ z.cps.toList) else decide (c ∈ z.cps.toList))) H → RIn neg (.str ⟨#[c]⟩) (.str z) H Q
  | lst {x : V} {p : Addr} {xs : List V} {H : Hp} {Q : VK} : H p = some (.lst xs) → flatV x = true → xs.all flatV = true → Q (.bl (if neg then !inV x xs else inV x xs)) H → RIn neg x (.ref p) H Q
theorem is_bl_rel {prog : Program} {w : World} {A : Around} {E : Value → Shared → Prop} {s : Shared} {x : V} {v : Value} {b : Bool} {Q : Value → Shared → Prop} (r : RelV x v) (h : Q (.bool (decide (x = .bl b))) s) : wpAny (model prog w) A (compareOp .Is v (.bool b)) Q E s := by
  cases x with
  | non => cases r; exact wpAny_pure (a := Value.bool false) (by simpa using h)
  | bl c =>
    cases r
    refine is_bool ?_
    rw [show (c == b) = decide (V.bl c = .bl b) from dec_bl.symm]
    exact h
  | int _ => obtain ⟨t, rfl⟩ := r; exact wpAny_pure (a := Value.bool false) (by simpa using h)
  | str _ => obtain ⟨t, rfl⟩ := r; exact wpAny_pure (a := Value.bool false) (by simpa using h)
  | byt _ => obtain ⟨t, rfl⟩ := r; exact wpAny_pure (a := Value.bool false) (by simpa using h)
  | flt _ => obtain ⟨t, rfl⟩ := r; exact wpAny_pure (a := Value.bool false) (by simpa using h)
  | ref _ => cases r; exact wpAny_pure (a := Value.bool false) (by simpa using h)
  | ty _ => cases r; exact wpAny_pure (a := Value.bool false) (by simpa using h)
theorem isn_bl_rel {prog : Program} {w : World} {A : Around} {E : Value → Shared → Prop} {s : Shared} {x : V} {v : Value} {b : Bool} {Q : Value → Shared → Prop} (r : RelV x v) (h : Q (.bool (!decide (x = .bl b))) s) : wpAny (model prog w) A (compareOp .IsNot v (.bool b)) Q E s := by
  cases x with
  | non => cases r; exact wpAny_pure (a := Value.bool true) (by simpa using h)
  | bl c =>
    cases r
    refine isnot_bool ?_
    rw [show (c != b) = !decide (V.bl c = .bl b) from congrArg not dec_bl.symm]
    exact h
  | int _ => obtain ⟨t, rfl⟩ := r; exact wpAny_pure (a := Value.bool true) (by simpa using h)
  | str _ => obtain ⟨t, rfl⟩ := r; exact wpAny_pure (a := Value.bool true) (by simpa using h)
  | byt _ => obtain ⟨t, rfl⟩ := r; exact wpAny_pure (a := Value.bool true) (by simpa using h)
  | flt _ => obtain ⟨t, rfl⟩ := r; exact wpAny_pure (a := Value.bool true) (by simpa using h)
  | ref _ => cases r; exact wpAny_pure (a := Value.bool true) (by simpa using h)
  | ty _ => cases r; exact wpAny_pure (a := Value.bool true) (by simpa using h)
inductive RIs (neg : Bool) : V → V → Hp → VK → Prop
  | non {x : V} {H : Hp} {Q : VK} : Q (.bl (if neg then !decide (x = .non) else decide (x = .non))) H → RIs neg x .non H Q
  | bl {x : V} {b : Bool} {H : Hp} {Q : VK} : Q (.bl (if neg then !decide (x = .bl b) else decide (x = .bl b))) H → RIs neg x (.bl b) H Q
section
variable {X : Cx}
theorem op_isU : OpR X (compareOp .Is) (RIs false) := by
  intro pins s σ H x y v u Q I rx ry h
  cases h with
  | non q => exact op_isN pins s σ H _ _ v u Q I rx ry ⟨rfl, q⟩
  | bl q =>
    cases ry
    exact is_bl_rel rx ⟨.bl _, H, I, rfl, q⟩
theorem op_isnU : OpR X (compareOp .IsNot) (RIs true) := by
  intro pins s σ H x y v u Q I rx ry h
  cases h with
  | non q => exact op_notN pins s σ H _ _ v u Q I rx ry ⟨rfl, q⟩
  | bl q =>
    cases ry
    exact isn_bl_rel rx ⟨.bl _, H, I, rfl, q⟩
end
inductive RLen : List V → Hp → VK → Prop
  | str {z : Str} {H : Hp} {Q : VK} : z.length ≤ sizeLine → Q (.int z.length) H → RLen [.str z] H Q
  | lst {p : Addr} {xs : List V} {H : Hp} {Q : VK} : H p = some (.lst xs) → Q (.int xs.length) H → RLen [.ref p] H Q
  | tup {p : Addr} {xs : List V} {H : Hp} {Q : VK} : H p = some (.tup xs) → Q (.int xs.length) H → RLen [.ref p] H Q
  | dict {p : Addr} {xs : List (Key × V)} {H : Hp} {Q : VK} : H p = some (.dK xs) → Q (.int xs.length) H → RLen [.ref p] H Q
  | frz {p : Addr} {o : Obj} {xs : List V} {H : Hp} {Q : VK} : H p = some (.frz o (.lst xs)) → Q (.int xs.length) H → RLen [.ref p] H Q
theorem call_lenU {X : Cx} : CallR X (.builtin "len") RLen := by
  intro pins s σ H xs us Q I r h
  cases h with
  | str h1 q => exact call_len_str pins s σ H _ us Q I r ⟨_, rfl, h1, q⟩
  | lst h1 q => exact call_len_seq pins s σ H _ us Q I r ⟨_, _, rfl, .inl (SqL.of h1), q⟩
  | tup h1 q => exact call_len_seq pins s σ H _ us Q I r ⟨_, _, rfl, .inr (SqT.of h1), q⟩
  | dict h1 q => exact call_lenD pins s σ H _ us Q I r ⟨_, _, rfl, h1, q⟩
  | frz h1 q => exact call_len_seq pins s σ H _ us Q I r ⟨_, _, rfl, .inl (.inl (.inr ⟨_, h1⟩)), q⟩
inductive RSl : V → Option Int → Option Int → Hp → VK → Prop
  | str {z : Str} {lo hi : Option Int} {H : Hp} {Q : VK} : z.length ≤ sizeLine → Q (.str (cutS z lo hi)) H → RSl (.str z) lo hi H Q
  | lst {p : Addr} {xs : List V} {lo hi : Option Int} {H : Hp} {Q : VK} : H p = some (.lst xs) → AlD (.lst (cutV xs lo hi)) H Q → RSl (.ref p) lo hi H Q
section
variable {X : Cx}
theorem sl_U : SlR X (RSl) := by
  intro pins s σ H x v lo hi vl vu sl Q I rx hs h1 h2 h
  cases h with
  | str hz q => exact sl_str pins s σ H _ v _ _ vl vu sl Q I rx hs h1 h2 ⟨_, rfl, hz, q⟩
  | lst hl q => exact sl_list pins s σ H _ v _ _ vl vu sl Q I rx hs h1 h2 ⟨_, _, rfl, SqL.of hl, q⟩
theorem pe_lstM {es : List Expr} {t : TA} {pos : Pos} (h : PA X es t) : PE X (.List es pos) (tLstM t) := pe_lst h
end
theorem cdiv_of {i j : Int} (h0 : 0 < j) (h1 : j < 2 ^ 100) : CDivW i j := wide_div (b := 100) h0 (by omega) (by decide) (by decide)
theorem mod_let {i j : Int} {H : Hp} {Q : VK} (h : 0 < j) (k : ∀ r, 0 ≤ r → r < j → Q (.int r) H) : rI (fun _ j => 0 < j) (fun i j => .int (i % j)) (.int i) (.int j) H Q :=
  ⟨i, j, rfl, rfl, h, k _ (Int.emod_nonneg _ (by omega)) (Int.emod_lt_of_pos _ h)⟩
theorem pow_ok {r c z d : Int} (h1 : 0 ≤ r) (h2 : r < 2147483648) (h3 : 0 ≤ c) (h4 : c ≤ 200000) (h5 : 0 ≤ z) (h6 : z ≤ 1000001) (h7 : 0 ≤ d) (h8 : d ≤ 1000) : (r / 8 + c * z * z + d).natAbs < 2 ^ 64 := by
  have a1 : z * z ≤ 1000001 * 1000001 := Int.mul_le_mul h6 h6 h5 (by omega)
  have a2 : 0 ≤ z * z := Int.mul_nonneg h5 h5
  have a3 : c * (z * z) ≤ 200000 * (1000001 * 1000001) := Int.mul_le_mul h4 a1 a2 (by omega)
  have a4 : 0 ≤ c * (z * z) := Int.mul_nonneg h3 a2
  rw [Int.mul_assoc]
  omega
inductive RIx : V → V → Hp → VK → Prop
  | l {p : Addr} {xs : List V} {i : Int} {v : V} {H : Hp} {Q : VK} : H p = some (.lst xs) → atI xs i = some v → Q v H → RIx (.ref p) (.int i) H Q
  | t {p : Addr} {xs : List V} {i : Int} {v : V} {H : Hp} {Q : VK} : H p = some (.tup xs) → atI xs i = some v → Q v H → RIx (.ref p) (.int i) H Q
  | f {p : Addr} {o : Obj} {xs : List V} {i : Int} {v : V} {H : Hp} {Q : VK} : H p = some (.frz o (.lst xs)) → atI xs i = some v → Q v H → RIx (.ref p) (.int i) H Q
  | s {z : Str} {i : Int} {c : Nat} {H : Hp} {Q : VK} : z.length ≤ sizeLine → atI z.cps.toList i = some c → Q (.str ⟨#[c]⟩) H → RIx (.str z) (.int i) H Q
theorem ix_U {X : Cx} : IxR X RIx := by
  intro a b pins s σ H x y v u Q I rx ry h hs
  cases h with
  | l e1 e2 q => exact ix_seq a b pins s σ H _ _ v u Q I rx ry (.inl ⟨_, _, _, _, rfl, rfl, SqL.of e1, e2, q⟩) hs
  | t e1 e2 q => exact ix_seq a b pins s σ H _ _ v u Q I rx ry (.inr (.inl ⟨_, _, _, _, rfl, rfl, SqT.of e1, e2, q⟩)) hs
  | f e1 e2 q => exact ix_seq a b pins s σ H _ _ v u Q I rx ry (.inl ⟨_, _, _, _, rfl, rfl, .inl (.inr ⟨_, e1⟩), e2, q⟩) hs
  | s e1 e2 q => exact ix_seq a b pins s σ H _ _ v u Q I rx ry (.inr (.inr ⟨_, _, _, rfl, rfl, e1, e2, q⟩)) hs
theorem setL {p : Addr} {xs : List V} {k : Int} {j : Nat} {v : V} {H : Hp} {Q : Hp → Prop} (h : H p = some (.lst xs)) (e : ixN xs.length k = some j) (q : Q (upd H p (.lst (xs.set j v)))) : rSetL (.ref p) (.int k) v H Q := ⟨p, xs, k, j, rfl, rfl, h, e, q⟩
theorem set_c {p : Addr} {xs : List V} {R : List (Addr × HO)} {k : Int} {j : Nat} {v : V} {H D : Hp} {Q : Hp → Prop} (hi : HI H ((p, .lst xs) :: R) D) (e : ixN xs.length k = some j) (q : ∀ H', HI H' ((p, .lst (xs.set j v)) :: R) D → Q H') : rSetL (.ref p) (.int k) v H Q :=
  setL (hi.get (List.mem_cons_self ..)) e (q _ hi.set)
theorem set_c2 {p : Addr} {xs : List V} {y : Addr × HO} {R : List (Addr × HO)} {k : Int} {j : Nat} {v : V} {H D : Hp} {Q : Hp → Prop} (hi : HI H (y :: (p, .lst xs) :: R) D) (e : ixN xs.length k = some j) (q : ∀ H', HI H' (y :: (p, .lst (xs.set j v)) :: R) D → Q H') : rSetL (.ref p) (.int k) v H Q :=
  setL (hi.get (List.mem_cons_of_mem _ (List.mem_cons_self ..))) e (q _ hi.set2)
theorem set_c3 {p : Addr} {xs : List V} {y z : Addr × HO} {R : List (Addr × HO)} {k : Int} {j : Nat} {v : V} {H D : Hp} {Q : Hp → Prop} (hi : HI H (y :: z :: (p, .lst xs) :: R) D) (e : ixN xs.length k = some j) (q : ∀ H', HI H' (y :: z :: (p, .lst (xs.set j v)) :: R) D → Q H') : rSetL (.ref p) (.int k) v H Q :=
  setL (hi.get (List.mem_cons_of_mem _ (List.mem_cons_of_mem _ (List.mem_cons_self ..)))) e (q _ hi.set3)
end Wk
set_option maxRecDepth 100000
set_option maxHeartbeats 4000000
namespace Wk
open PySem PySem.Spec PyProof.Rows L2
abbrev Cells := List (Addr × HO)
/-- what a for asks of its walk -/
def ForK (J : It) (g : TG) (tb : TS) (D : Ends) (σ : L2.St) (H : Hp) : Prop := ∃ W : Nat → Nat → L2.St → Hp → Prop, (∃ m, W 0 m σ H) ∧ ∀ i m σ H, W i m σ H →
  (J.stop i H ∧ D.nx σ H) ∨ (J.go i H ∧ ∃ N : L2.St → Hp → Prop, (∀ σ' H', N σ' H' → ∃ m', m' < m ∧ W (i + 1) m' σ' H') ∧ ∀ x H', J.yld i H x H' → g x σ H' fun σ2 H2 => tb { D with nx := N, ct := N, bk := D.nx } σ2 H2)
/-- what a comprehension asks of its walk -/
def LcK (J : It) (g : TG) (tt : TT) (te : TE) (vs : List Nat) (σ : L2.St) (H1 : Hp) (Q : VK) : Prop := ∀ D, H1 D = none → ∃ W : Nat → Nat → Hp → Prop, (∃ m, W 0 m (upd H1 D (.lst []))) ∧ ∀ i m H, W i m H →
  (J.stop i H ∧ Q (.ref D) H) ∨ (J.go i H ∧ ∃ Nx : Hp → Prop, (∀ H', Nx H' → ∃ m', m' < m ∧ W (i + 1) m' H') ∧ ∀ x H', J.yld i H x H' → g x (wipe σ vs) H' fun σ2 H2 => wipe σ2 vs = wipe σ vs ∧ tt σ2 H2 fun b H3 =>
    if b = true then te σ2 H3 fun y H4 => ∃ acc, H4 D = some (.lst acc) ∧ acc.length < sizeLine ∧ Nx (upd H4 D (.lst (acc ++ [y]))) else Nx H3)
section
variable {K : PySem.W.Frag} {σ : L2.St} {H : Hp} {Q : VK} {D : Ends} {ta : TA} {te tl : TE} {tt : TT} {g : TG} {tb : TS} {wi : TI} {vs : List Nat} {R : It → Hp → Prop}
theorem st_for (h : wi σ H fun J H1 => ForK J g tb D σ H1) : tFor wi g tb D σ H := h
theorem se_lc (h : wi σ H fun J H1 => LcK J g tt te vs σ H1 Q) : tLc wi g tt te vs σ H Q := h
theorem it_rng1 (h : ta σ H fun vs H1 => ∃ j : Int, vs = [.int j] ∧ -(2 ^ 62) ≤ j ∧ j < 2 ^ 62 ∧ R (Itr 0 j.toNat) H1) : iRng1 ta σ H R := h
theorem it_rng2 (h : ta σ H fun vs H1 => ∃ i j : Int, vs = [.int i, .int j] ∧ (-(2 ^ 62) ≤ i ∧ i < 2 ^ 62 ∧ -(2 ^ 62) ≤ j ∧ j < 2 ^ 62) ∧ R (Itr i (j - i).toNat) H1) : iRng2 ta σ H R := h
theorem it_list (h : tl σ H fun x H1 => ∃ a, x = .ref a ∧ (∃ xs, SqL K H1 a xs) ∧ R (Itl K a) H1) : iList K tl σ H R := h
theorem it_str (h : tl σ H fun v H1 => ∃ x, v = .str x ∧ R (Its x) H1) : iStr tl σ H R := h
theorem rng1_mk {n : Int} {P : Int → Prop} (h1 : -(2 ^ 62) ≤ n) (h2 : n < 2 ^ 62) (q : P n) : ∃ j : Int, [V.int n] = [.int j] ∧ -(2 ^ 62) ≤ j ∧ j < 2 ^ 62 ∧ P j := ⟨n, rfl, h1, h2, q⟩
theorem rng2_mk {a b : Int} {P : Int → Int → Prop} (h1 : -(2 ^ 62) ≤ a ∧ a < 2 ^ 62 ∧ -(2 ^ 62) ≤ b ∧ b < 2 ^ 62) (q : P a b) : ∃ i j : Int, [V.int a, V.int b] = [.int i, .int j] ∧ (-(2 ^ 62) ≤ i ∧ i < 2 ^ 62 ∧ -(2 ^ 62) ≤ j ∧ j < 2 ^ 62) ∧ P i j := ⟨a, b, rfl, h1, q⟩
theorem list_mk {a : Addr} {xs : List V} {P : Addr → Prop} (h : H a = some (.lst xs)) (q : P a) : ∃ b, V.ref a = .ref b ∧ (∃ xs, SqL K H b xs) ∧ P b := ⟨a, rfl, ⟨xs, SqL.of h⟩, q⟩
theorem strI_mk {z : Str} {P : Str → Prop} (q : P z) : ∃ x, V.str z = .str x ∧ P x := ⟨z, rfl, q⟩
theorem st_yes {QB : Bool → Hp → Prop} (h : QB true H) : tYes σ H QB := h
end
/-- the next turn -/
def NX (I : Nat → L2.St → Cells → Hp → Prop) (i : Nat) : L2.St → Hp → Prop := fun σ' H' => ∃ R' D', HI H' R' D' ∧ I i σ' R' D'
section
variable {J : It} {n : Nat} {G : Hp → Prop} {Y : Nat → Hp → V → Hp → Prop} {g : TG} {tb : TS} {D : Ends} {σ : L2.St} {H D0 : Hp} {R0 : Cells} {tt : TT} {te : TE} {vs : List Nat} {Q : VK}
theorem for_hi (w : Walk J n G Y) (I : Nat → L2.St → Cells → Hp → Prop) (hi : HI H R0 D0) (h0 : I 0 σ R0 D0) (hG : ∀ i σ R Dd H, i ≤ n → HI H R Dd → I i σ R Dd → G H)
    (hs : ∀ i x σ R Dd H H', i < n → HI H R Dd → I i σ R Dd → Y i H x H' → g x σ H' fun σ2 H2 => tb { D with nx := NX I (i + 1), ct := NX I (i + 1), bk := D.nx } σ2 H2) (hd : ∀ σ R Dd H, HI H R Dd → I n σ R Dd → D.nx σ H) : ForK J g tb D σ H :=
  for_it w (NX I) ⟨R0, D0, hi, h0⟩ (fun i σ H hn ⟨R, Dd, a, b⟩ => hG i σ R Dd H hn a b) (fun i x σ H H' hn ⟨R, Dd, a, b⟩ y => hs i x σ R Dd H H' hn a b y) (fun σ H ⟨R, Dd, a, b⟩ => hd σ R Dd H a b)
/-- over a range -/
theorem for_rng {lo : Int} (I : Nat → L2.St → Cells → Hp → Prop) (hi : HI H R0 D0) (h0 : I 0 σ R0 D0)
    (hs : ∀ (i : Nat) σ R Dd H, i < n → HI H R Dd → I i σ R Dd → g (.int (lo + i)) σ H fun σ2 H2 => tb { D with nx := NX I (i + 1), ct := NX I (i + 1), bk := D.nx } σ2 H2) (hd : ∀ σ R Dd H, HI H R Dd → I n σ R Dd → D.nx σ H) : ForK (Itr lo n) g tb D σ H :=
  for_hi walk_range I hi h0 (fun _ _ _ _ _ _ _ _ => trivial) (fun i x σ R Dd H H' hn a b y => by
    obtain ⟨rfl, rfl⟩ := y
    exact hs i σ R Dd H' hn a b) hd
/-- over a list that is data -/
theorem for_lst {K : PySem.W.Frag} {a : Addr} {xs : List V} (I : Nat → L2.St → Cells → Hp → Prop) (hi : HI H R0 D0) (h0 : I 0 σ R0 D0) (hl : ∀ i σ R Dd, I i σ R Dd → Dd a = some (.lst xs))
    (hs : ∀ (i : Nat) x σ R Dd H, xs[i]? = some x → HI H R Dd → I i σ R Dd → g x σ H fun σ2 H2 => tb { D with nx := NX I (i + 1), ct := NX I (i + 1), bk := D.nx } σ2 H2) (hd : ∀ σ R Dd H, HI H R Dd → I xs.length σ R Dd → D.nx σ H) : ForK (Itl K a) g tb D σ H :=
  for_hi walk_list I hi h0 (fun i σ R Dd H _ q p => SqL.of (q.dat (hl i σ R Dd p))) (fun i x σ R Dd H H' hn a b y => by
    obtain ⟨rfl, y⟩ := y
    exact hs i x σ R Dd H' y a b) hd
/-- a comprehension's word: its list is the first cell -/
def PW' (L : Addr) (I : Nat → List V → Cells → Hp → Prop) (i : Nat) (H : Hp) : Prop := ∃ acc R Dd, HI H ((L, .lst acc) :: R) Dd ∧ I i acc R Dd ∧ acc.length ≤ i
/-- a turn's end: one more -/
def LE (L : Addr) (I : Nat → List V → Cells → Hp → Prop) (i : Nat) : VK := fun y H => ∃ acc, H L = some (.lst acc) ∧ acc.length < sizeLine ∧ PW' L I i (upd H L (.lst (acc ++ [y])))
theorem le_mk {L : Addr} {I : Nat → List V → Cells → Hp → Prop} {i : Nat} {acc : List V} {R : Cells} {Dd H : Hp} {y : V} (h : HI H ((L, .lst acc) :: R) Dd) (q : I (i + 1) (acc ++ [y]) R Dd) (hl : acc.length ≤ i) (hn : i < 1000000) : LE L I (i + 1) y H :=
  ⟨acc, h.get (List.mem_cons_self ..), by rw [sizeLine_eq]; omega, acc ++ [y], R, Dd, h.set, q, by rw [List.length_append]; simpa using hl⟩
theorem lc_hi (w : Walk J n G Y) (I : Nat → List V → Cells → Hp → Prop) (hi : HI H R0 D0) (h0 : I 0 [] R0 D0) (hG : ∀ i acc R Dd H, i ≤ n → HI H R Dd → I i acc R Dd → G H)
    (hs : ∀ L i acc x R Dd H H', i < n → HI H ((L, .lst acc) :: R) Dd → I i acc R Dd → acc.length ≤ i → Y i H x H' → g x (wipe σ vs) H' fun σ2 H2 => wipe σ2 vs = wipe σ vs ∧ tt σ2 H2 fun b H3 => if b = true then te σ2 H3 (LE L I (i + 1)) else PW' L I (i + 1) H3)
    (hd : ∀ L acc R Dd H, HI H ((L, .lst acc) :: R) Dd → I n acc R Dd → acc.length ≤ n → Q (.ref L) H) : LcK J g tt te vs σ H Q := fun L hL =>
  lc_it w (PW' L I) ⟨[], R0, D0, hi.new hL, h0, Nat.le_refl _⟩ (fun i H' hn ⟨acc, R, Dd, a, b, _⟩ => hG i acc R Dd H' hn a.drop b)
    (fun i x H1 H1' hn1 ⟨acc, R, Dd, a, b, c⟩ y => hs L i acc x R Dd H1 H1' hn1 a b c y) (fun H' ⟨acc, R, Dd, a, b, c⟩ => hd L acc R Dd H' a b c)
theorem lc_rng {lo : Int} (I : Nat → List V → Cells → Hp → Prop) (hi : HI H R0 D0) (h0 : I 0 [] R0 D0)
    (hs : ∀ L i acc R Dd H, i < n → HI H ((L, .lst acc) :: R) Dd → I i acc R Dd → acc.length ≤ i → g (.int (lo + (i : Nat))) (wipe σ vs) H fun σ2 H2 => wipe σ2 vs = wipe σ vs ∧ tt σ2 H2 fun b H3 => if b = true then te σ2 H3 (LE L I (i + 1)) else PW' L I (i + 1) H3)
    (hd : ∀ L acc R Dd H, HI H ((L, .lst acc) :: R) Dd → I n acc R Dd → acc.length ≤ n → Q (.ref L) H) : LcK (Itr lo n) g tt te vs σ H Q :=
  lc_hi walk_range I hi h0 (fun _ _ _ _ _ _ _ _ => trivial) (fun L i acc x R Dd H H' hn a b c y => by
    obtain ⟨rfl, rfl⟩ := y
    exact hs L i acc R Dd H' hn a b c) hd
theorem lc_lst {K : PySem.W.Frag} {a : Addr} {xs : List V} (I : Nat → List V → Cells → Hp → Prop) (hi : HI H R0 D0) (h0 : I 0 [] R0 D0) (hl : ∀ i acc R Dd, I i acc R Dd → Dd a = some (.lst xs))
    (hs : ∀ L i acc x R Dd H, xs[i]? = some x → HI H ((L, .lst acc) :: R) Dd → I i acc R Dd → acc.length ≤ i → g x (wipe σ vs) H fun σ2 H2 => wipe σ2 vs = wipe σ vs ∧ tt σ2 H2 fun b H3 => if b = true then te σ2 H3 (LE L I (i + 1)) else PW' L I (i + 1) H3)
    (hd : ∀ L acc R Dd H, HI H ((L, .lst acc) :: R) Dd → I xs.length acc R Dd → acc.length ≤ xs.length → Q (.ref L) H) : LcK (Itl K a) g tt te vs σ H Q :=
  lc_hi walk_list I hi h0 (fun i acc R Dd H _ q p => SqL.of (q.dat (hl i acc R Dd p))) (fun L i acc x R Dd H H' hn a b c y => by
    obtain ⟨rfl, y⟩ := y
    exact hs L i acc x R Dd H' y a b c) hd
end
end Wk
set_option maxRecDepth 100000
set_option maxHeartbeats 4000000
namespace Wk
open PySem PySem.Spec PyProof.Rows L2
/-- the base class at B -/
structure ExB (K : PySem.W.Frag) (mg : Str → Option Value) (n : Str) (B : Addr) : Prop where
  g : mg n = some (.ref B)
  rd : PySem.W.readsIn K B (.type "type") = true
  sp : PySem.W.specialIn K (.ref B) "__getattribute__" = some (some (.builtin "type.__getattribute__"))
  vV : PySem.W.findCls K (.ref B) (.type "type") "__init__" = some (.val (.builtin "ValueError.__init__"))
/-- an own exception class at C, its __init__ at fI -/
structure ExK (K : PySem.W.Frag) (mg : Str → Option Value) (n : Str) (C fI : Addr) : Prop where
  g : mg n = some (.ref C)
  T : OexC K C
  E : ExcC K C
  iC : PySem.W.findIn K (.ref C) "__init__" = some (some (.ref fI))
  tI : PySem.W.typeIn K (.ref fI) = some (.type "function")
  no : PySem.W.findIn K (.ref C) "found" = some none
def isVal (o : Option PySem.W.CFound) (n : String) : Bool := match o with
  | some (.val (.builtin x)) => x == n
  | _ => false
theorem isVal_ok {o : Option PySem.W.CFound} {n : String} (h : isVal o n = true) : o = some (.val (.builtin n)) := by
  unfold isVal at h
  split at h
  · rw [beq_iff_eq.mp h]
  · cases h
def exbB (n : Str) (K : PySem.W.Frag) : Bool := PySem.W.readsIn K (He.ga K n) (.type "type") && (He.eqO (PySem.W.specialIn K (.ref (He.ga K n)) "__getattribute__") (some (some (.builtin "type.__getattribute__"))) && isVal (PySem.W.findCls K (.ref (He.ga K n)) (.type "type") "__init__") "ValueError.__init__")
def oexB (K : PySem.W.Frag) (C : Addr) : Bool := match K.lookup C with
  | some ⟨.type "type", _, .cls cd, sl⟩ => (match cd.mro, sl.toList with
    | .ref C' :: bm, [_, _, _, _, some (.builtin n), _] => C' == C && (n == "ValueError.__new__" && (!cd.hasDel && (cd.hasDict && PySem.HandSPX.refsVE bm)))
    | _, _ => false)
  | _ => false
def eqB (a b : Option Bool) : Bool := decide (a = b)
def eqV (a b : Option Value) : Bool := decide (a = b)
def exkB (n : Str) (K : PySem.W.Frag) : Bool :=
  let C := He.ga K n
  oexB K C && (He.eqO (PySem.W.findIn K (.ref C) "__setattr__") (some (some (.builtin "object.__setattr__"))) && (eqB (PySem.W.subIn K (.ref C) (.type "BaseException")) (some true) && (eqV (PySem.W.typeIn K (.ref C)) (some (.type "type")) && (PySem.W.keepIn K (.ref C) &&
  (He.eqO (PySem.W.findIn K (.ref C) "__getattribute__") (some (some (.builtin "BaseException.__getattribute__"))) && (He.eqO (PySem.W.findIn K (.ref C) "__getattr__") (some none) && (PySem.W.hasDictIn K C &&
  (He.eqO (PySem.W.findIn K (.ref C) "__class__") (some (some (.builtin "object.__class__"))) && (He.eqO (PySem.W.specialIn K (.builtin "object.__class__") "__get__") (some (some (.builtin "getset_descriptor.__get__"))) && (eqB (PySem.W.takesIn K (.builtin "object.__class__")) (some true) && (eqB (PySem.W.mroIn K C (.type "object")) (some true) &&
  (He.eqO (PySem.W.findIn K (.ref C) "__init__") (some (some (.ref (He.ma K C "__init__")))) && (eqV (PySem.W.typeIn K (.ref (He.ma K C "__init__"))) (some (.type "function")) && He.eqO (PySem.W.findIn K (.ref C) "found") (some none))))))))))))))
section
variable {K : PySem.W.Frag} {h : Heap} {mg : Str → Option Value}
theorem oexB_ok {C : Addr} (q : oexB K C = true) : ∃ nm q N bs bm sn sub ab col dd k0 k1 k2 k3 k5, K.lookup C = some (excClassObj nm q C N bs bm true sn sub ab col dd k0 k1 k2 k3 k5 "ValueError.__new__") ∧ PySem.HandSPX.refsVE bm = true := by
  unfold oexB at q
  split at q
  · rename_i dd cd sl ho
    split at q
    · rename_i C' bm k0 k1 k2 k3 n k5 hm hs
      simp only [Bool.and_eq_true, beq_iff_eq, Bool.not_eq_true'] at q
      obtain ⟨rfl, rfl, hdel, hd, ht⟩ := q
      obtain ⟨nm, bs, mro, ns, qn, hdc, sn, sub, ab, col, del⟩ := cd
      dsimp only at hm hdel hd
      subst hm hdel hd
      have hsl : sl = #[k0, k1, k2, k3, some (.builtin "ValueError.__new__"), k5] := by
        obtain ⟨l⟩ := sl
        simp only at hs
        rw [hs]
      subst hsl
      exact ⟨nm, qn, ns, bs, bm, sn, sub, ab, col, dd, k0, k1, k2, k3, k5, ho, ht⟩
    · cases q
  · cases q
theorem exb_ok (X : K.In h) (G : h.Ns mainGlobals mg) {n : Str} (c1 : (He.Fa.glo n).ok K = true) (c : exbB n K = true) : ExB K mg n (He.ga K n) := by
  obtain ⟨a, c⟩ := He.ba c
  obtain ⟨b, d⟩ := He.ba c
  exact ⟨He.glo_ok X G c1, a, He.eqO_ok b, isVal_ok d⟩
theorem exk_ok (X : K.In h) (G : h.Ns mainGlobals mg) {n : Str} (c1 : (He.Fa.glo n).ok K = true) (c : exkB n K = true) : ExK K mg n (He.ga K n) (He.ma K (He.ga K n) "__init__") := by
  obtain ⟨a1, c⟩ := He.ba c
  obtain ⟨a2, c⟩ := He.ba c
  obtain ⟨a3, c⟩ := He.ba c
  obtain ⟨a4, c⟩ := He.ba c
  obtain ⟨a5, c⟩ := He.ba c
  obtain ⟨a6, c⟩ := He.ba c
  obtain ⟨a7, c⟩ := He.ba c
  obtain ⟨a8, c⟩ := He.ba c
  obtain ⟨a9, c⟩ := He.ba c
  obtain ⟨a10, c⟩ := He.ba c
  obtain ⟨a11, c⟩ := He.ba c
  obtain ⟨a12, c⟩ := He.ba c
  obtain ⟨a13, c⟩ := He.ba c
  obtain ⟨a14, a15⟩ := He.ba c
  exact ⟨He.glo_ok X G c1, ⟨oexB_ok a1, He.eqO_ok a2, of_decide_eq_true a3, of_decide_eq_true a4, a5⟩, ⟨He.eqO_ok a6, He.eqO_ok a7, of_decide_eq_true a3, a8, He.eqO_ok a9, He.eqO_ok a10, of_decide_eq_true a11, of_decide_eq_true a12⟩, He.eqO_ok a13, of_decide_eq_true a14, He.eqO_ok a15⟩
end
section
variable {X : Cx} {o e : Expr} {es : List Expr} {to te : TE} {ta : TA} {f : Str} {p p' p1 p2 pos : Pos} {C fI B : Addr} {n x : Str}
/-- B.__init__(self, ..), B an own class without an __init__ of its own -/
theorem pe_binit {pl : Sem Bool} (T : ExB X.K X.mg n B) (hg : Gl X n) (ha : PA X (e :: es) ta) (hdb : (n == ("__debug__" : Str)) = false := by decide)
    (hc : eval (.Call (.Attribute (.Name n p1) "__init__" p2) (e :: es) [] pos) X.env = (do
      let ov ← eval (.Name n p1) X.env
      standAt p2.atName
      let (f, first) ← holding [ov] (getMethod ov "__init__" pl)
      callWith pos f first (backTo pos (starEach (e :: es) X.env)) (backToKw pos (keywordEach [] X.env))) := by rfl)
    (he : starEach (e :: es) X.env = (false, eval e X.env) :: starEach es X.env := by rfl) (hpl : (backTo pos (starEach es X.env)).any (·.1) = false := by rfl) :
    PE X (.Call (.Attribute (.Name n p1) "__init__" p2) (e :: es) [] pos) (tVeI X.K ta) := by
  refine ⟨fun pins s σ H Q I h => ?_⟩
  refine PySem.W.methodCall_KW (ld_glob I hg T.g ?_ hdb) hc
  refine PySem.W.method_cls I.kIn T.sp ?_
  refine PySem.W.cls_value I.kIn T.rd T.vV (by decide +kernel) ?_
  show wpAny _ _ (callWith pos (Value.builtin "ValueError.__init__") [] (backTo pos (starEach (e :: es) X.env)) []) _ _ _
  refine PyProof.Rows.callWith_method1 (thn (ha.run pos pins _ σ H _ (I.tok _) h) fun us s1 ⟨vs, H1, I1, r1, a, C, ws, ev, hl, T, ea, q⟩ => ?_) he hpl
  subst ev
  cases r1 with
  | @cons _ u0 _ ur ra rw' =>
    obtain rfl : u0 = Value.ref a := ra
    have hlen : ur.length ≤ sizeLine := by
      rw [← Paired.length rw', sizeLine_eq]
      omega
    exact oinit_ok T I1 ea hlen fun s' J => ⟨.non, H1, J, rfl, q⟩
end
/-- __init__(self, found) -/
def spInit (K : PySem.W.Frag) (C : Addr) : Sp := fun vs H Q _ => ∃ (a : Addr) (v : V), vs = [.ref a, v] ∧ OexC K C ∧ PySem.W.findIn K (.ref C) "found" = some none ∧ H a = some (exo a C none) ∧
  ∀ d, H d = none → d ≠ a → Q .non (upd (upd H d (exd d [(("found" : Str), v)])) a (exo a C (some d)))
theorem spInit_len {K : PySem.W.Frag} {C : Addr} {vs : List V} {H : Hp} {Q : VK} {E : XK} (h : spInit K C vs H Q E) : vs.length = (["self", "found"] : List Str).length := by
  obtain ⟨a, v, rfl, _⟩ := h
  rfl
theorem init_plain {K : PySem.W.Frag} {C : Addr} {z : Str} {vs : List V} {H : Hp} {Q : VK} {E : XK} (h : spInit K C vs H Q E) :
    tSeq (tDrop (tVeI K (tCons (tVar 0) (tCons (tC (.str z)) tNil)))) (tOst K "found" (tVar 0) (tVar 1)) { nx := fun _ H' => Q .non H', rt := Q } (start ["self", "found"] vs) H := by
  obtain ⟨a, v, rfl, T, no, ea, k⟩ := h
  exact ⟨_, rfl, a, C, [.str z], rfl, (show 1 ≤ 1000 by decide), T, ea, ⟨_, rfl, _, rfl, a, C, rfl, T, no, .inl ⟨ea, k⟩⟩⟩
/-- C(e) -/
def tMkE (C : Addr) (ta : TA) : TE := fun σ H Q => ta σ H fun vs H1 => ∃ v, vs = [v] ∧ ∀ a d, H1 a = none → H1 d = none → d ≠ a → Q (.ref a) (upd (upd H1 d (exd d [(("found" : Str), v)])) a (exo a C (some d)))
theorem upd_swap {H : Hp} {a b : Addr} {o u : HO} (h : a ≠ b) : upd (upd H a o) b u = upd (upd H b u) a o := by
  funext c
  by_cases h1 : c = a
  · subst h1
    rw [upd_ne h, upd_same, upd_same]
  · by_cases h2 : c = b
    · subst h2
      rw [upd_same, upd_ne h1, upd_same]
    · rw [upd_ne h2, upd_ne h1, upd_ne h1, upd_ne h2]
theorem upd_end {H : Hp} {a d : Addr} {o o' u : HO} (h : d ≠ a) : upd (upd (upd H a o) d u) a o' = upd (upd H d u) a o' := by
  rw [upd_swap h.symm, upd_upd]
/-- what init leaves, seen from the maker -/
theorem init_use {K : PySem.W.Frag} {mg : Str → Option Value} {n : Str} {C fI a : Addr} {v : V} {H : Hp} {Q : VK} {E : XK} (T : ExK K mg n C fI) (h : ∀ d, H d = none → d ≠ a → Q .non (upd (upd H d (exd d [(("found" : Str), v)])) a (exo a C (some d)))) :
    spInit K C [.ref a, v] (upd H a (exo a C none)) Q E :=
  ⟨a, v, rfl, T.T, T.no, upd_same, fun d hd ne => by
    rw [upd_end ne]
    rw [upd_ne ne] at hd
    exact h d hd ne⟩
section
variable {X : Cx} {e : Expr} {te : TE} {ta : TA} {p pos : Pos} {C fI : Addr} {n : Str} {k : Nat}
/-- the call itself -/
theorem run_exc {pins : List (Addr × Obj)} {σ : L2.St} {H1 : Hp} {s1 : Shared} {v : V} {u : Value} {Q : Value → Shared → Prop} (T : ExK X.K X.mg n C fI) (F1 : FnOk X.prog X.w X.K X.mg X.base CX0 k fI (fdOf X.K fI) ["self", "found"] (spInit X.K C)) (hb : Binds X.K (fdOf X.K fI) ["self", "found"] []) (hr : Room (k + 1) X.A)
    (I1 : Inv X pins σ H1 s1) (rv : RelV v u) (q : ∀ (a d : Addr) (hp2 h2 : Heap) (g2 : Array GenState) (d2 : Drawn) (t2 : Nat) (os2 : OsState), H1 a = none → H1 d = none → d ≠ a → s1.heap.objs.size ≤ a → (∀ b o, s1.heap.get? b = some o → hp2.get? b = some o) →
      Un (frs X.stack) [] (upd H1 a (exo a C none)) (upd (upd H1 d (exd d [(("found" : Str), v)])) a (exo a C (some d))) hp2 h2 → HOk X.prog X.w (upd (upd H1 d (exd d [(("found" : Str), v)])) a (exo a C (some d))) h2 → os2 = s1.os → AllBare g2 →
      Inv X pins σ (upd (upd H1 d (exd d [(("found" : Str), v)])) a (exo a C (some d))) ⟨h2, g2, d2, t2, os2⟩ → Q (.ref a) ⟨h2, g2, d2, t2, os2⟩) :
    wpAny (model X.prog X.w) X.A (call (.ref C) [u]) Q X.xe s1 := by
  obtain ⟨nm, qq, N, bs, bm, sn, sub, ab, col, dd, k0, k1, k2, k3, k5, hC, hbm⟩ := T.T.cls
  obtain ⟨hp, g, dr, tk, os⟩ := s1
  have hsz : hp.objs.size ≤ hp.objs.size + 1 := Nat.le_succ _
  have hn : H1 (hp.objs.size + 1) = none := I1.hok.fresh hsz
  have kk : ∀ b o, hp.get? b = some o → ((hp.push (PySem.W.kdv_tup [u])).push (PySem.HandSPX.excO C hp.objs.size)).get? b = some o := fun b o e => Heap.get?_push_of_some _ (Heap.get?_push_of_some _ e)
  have hget : ((hp.push (PySem.W.kdv_tup [u])).push (PySem.HandSPX.excO C hp.objs.size)).get? (hp.objs.size + 1) = some (PySem.HandSPX.excO C hp.objs.size) := by heap_get
  have I2 : Inv X pins σ (upd H1 (hp.objs.size + 1) (exo (hp.objs.size + 1) C none)) ⟨(hp.push (PySem.W.kdv_tup [u])).push (PySem.HandSPX.excO C hp.objs.size), g, dr, tk, os⟩ :=
    I1.laid (t' := tk) (a := hp.objs.size + 1) (o := exo (hp.objs.size + 1) C none) (h' := (hp.push (PySem.W.kdv_tup [u])).push (PySem.HandSPX.excO C hp.objs.size)) kk hsz (exo_ok hget)
  have r2 : Vals [V.ref (hp.objs.size + 1), v] [Value.ref (hp.objs.size + 1), u] := .cons rfl (.cons rv .nil)
  have hus : [u].length ≤ sizeLine := by
    rw [sizeLine_eq]
    exact (by decide : 1 ≤ 16777216)
  have sp1 : spInit X.K C [.ref (hp.objs.size + 1), v] (upd H1 (hp.objs.size + 1) (exo (hp.objs.size + 1) C none)) (fun w H2 => w = .non ∧ ∃ d, H1 d = none ∧ d ≠ hp.objs.size + 1 ∧ H2 = upd (upd H1 d (exd d [(("found" : Str), v)])) (hp.objs.size + 1) (exo (hp.objs.size + 1) C (some d))) (fun _ _ _ => False) :=
    init_use T fun d hd ne => ⟨rfl, d, hd, ne, rfl⟩
  refine wpAny_call (PySem.HandSPX.call_own F.excBase_ValueError (fun Y => PySem.HandSPX.refsVE_contains Y bm hbm) (I1.kIn _ _ hC) (PySem.W.looks_findIn I1.kIn T.iC) (fun self => PySem.W.bind_fn I1.kIn self T.tI) hus
    (codeAny_mono (F1.run _ X.stack _ _ ⟨[Value.ref (hp.objs.size + 1), u], []⟩ [Value.ref (hp.objs.size + 1), u] _ _ (fun _ _ _ => False) (hr.make C [u] []) (I2.env0.make C [u] []) (hb _ [Value.ref (hp.objs.size + 1), u] I2.kIn rfl) r2 sp1) fun r s' hq' => ?_))
  cases r with
  | error er => exact hq'.elim
  | ok fl =>
    cases fl with
    | ret z =>
      have hq0 := hq'
      obtain ⟨w, H2, os2, bare2, un2, hok2, rw', ew, d, hd1, ne, e2⟩ := hq'
      subst ew e2
      obtain ⟨w', H3, J, rw2, ew2, d', hd', ne', e3⟩ := I2.after hq0
      subst ew2
      obtain ⟨h2, g2, d2, t2, os'⟩ := s'
      refine ⟨rw', q _ d _ h2 g2 d2 t2 os' hn hd1 ne hsz kk un2 hok2 os2 bare2 ?_⟩
      exact I2.call' (ch := []) os2 un2 hok2 bare2 (fun b z => absurd z (by simp))
    | next => exact False.elim hq'
    | brk => exact False.elim hq'
    | cont => exact False.elim hq'
/-- C(e), to be raised -/
def tMkX (C : Addr) (ta : TA) : L2.St → Hp → XK → Prop := fun σ H Q => ta σ H fun vs H1 => ∃ v, vs = [v] ∧ ∀ d, H1 d = none → Q (.ref C) (some d) (upd H1 d (.xd [(("found" : Str), v)]))
theorem pmk_X (T : ExK X.K X.mg n C fI) (F1 : FnOk X.prog X.w X.K X.mg X.base CX0 k fI (fdOf X.K fI) ["self", "found"] (spInit X.K C)) (hb : Binds X.K (fdOf X.K fI) ["self", "found"] []) (hr : Room (k + 1) X.A) (hg : Gl X n) (ha : PA X [e] ta)
    (hdb : (n == ("__debug__" : Str)) = false := by decide) (he : starEach [e] X.env = (false, eval e X.env) :: starEach [] X.env := by rfl) (hpl : (backTo pos (starEach [] X.env)).any (·.1) = false := by rfl) :
    PMk X (.Call (.Name n p) [e] [] pos) (tMkX C ta) := by
  intro pins s σ H Q I h
  refine wpAny_Call_Name_kw (ld_glob I hg T.g ?_ hdb)
  refine PySem.W.callWith_K (h₀ := X.base) I.ok.mod.kin T.T.kC (thn (ha.run pos pins s σ H _ I h) fun us s1 ⟨vs, H1, I1, r1, v, ev, q1⟩ => ⟨I1.kIn, ?_⟩) he hpl
  subst ev
  cases r1 with
  | @cons _ u _ us rv rn =>
    cases rn
    show wpAny _ _ (call (.ref C) [u]) _ _ _
    refine run_exc T F1 hb hr I1 rv fun a d hp2 h2 g2 d2 t2 os2 ha hd ne hsz kk un hok eo hb2 J => ?_
    obtain ⟨hp, g, dr, tk, os⟩ := s1
    refine mk_end (fs := [(("found" : Str), v)]) (hp2 := hp2) (os1 := os) (raises_own T.T.exC T.T.tyC) I1 hsz kk un hok eo hb2 upd_same (by rw [upd_ne ne, upd_same]) hd ?_
    have e1 : upd (del (upd (upd H1 d (exd d [(("found" : Str), v)])) a (exo a C (some d))) a) d (.xd [(("found" : Str), v)]) = upd H1 d (.xd [(("found" : Str), v)]) := by
      funext b
      by_cases h1 : b = d
      · rw [h1, upd_same, upd_same]
      · rw [upd_ne h1, upd_ne h1]
        by_cases h2 : b = a
        · rw [h2, del_same, ha]
        · rw [del_ne h2, upd_ne h2, upd_ne h1]
    rw [e1]
    exact q1 d hd
def tRaiseX (C : Addr) (W : L2.WX) (ta : TA) : TS := fun _ σ H => tMkX C ta σ H fun cls d H' => W cls d σ H'
theorem ps_raiseX {W : L2.WX} {pos2 : Pos} (hc : X.calm = true) (tk : Takes X W) (T : ExK X.K X.mg n C fI) (F1 : FnOk X.prog X.w X.K X.mg X.base CX0 k fI (fdOf X.K fI) ["self", "found"] (spInit X.K C)) (hb : Binds X.K (fdOf X.K fI) ["self", "found"] []) (hr : Room (k + 1) X.A) (hg : Gl X n) (ha : PA X [e] ta)
    (hdb : (n == ("__debug__" : Str)) = false := by decide) (he : starEach [e] X.env = (false, eval e X.env) :: starEach [] X.env := by rfl) (hpl : (backTo pos (starEach [] X.env)).any (·.1) = false := by rfl) :
    PS X (.Raise (some (.Call (.Name n p) [e] [] pos)) none pos2) (tRaiseX C W ta) := ps_raise hc tk (pmk_X T F1 hb hr hg ha hdb he hpl)
end
/-- the same over the heap in two parts -/
theorem mkE_use {H D : Hp} {R : List (Addr × HO)} {v : V} {C : Addr} {Q : VK} (h : HI H R D) (k : ∀ a d H' D', HI H' R D' → Ex D D' → D' a = some (exo a C (some d)) → D' d = some (exd d [(("found" : Str), v)]) → Q (.ref a) H') :
    ∃ w, [v] = [w] ∧ ∀ a d, H a = none → H d = none → d ≠ a → Q (.ref a) (upd (upd H d (exd d [(("found" : Str), w)])) a (exo a C (some d))) :=
  ⟨v, rfl, fun a d ha hd ne => by
    have h1 := h.newD (o := exd d [(("found" : Str), v)]) hd
    have ha1 : upd H d (exd d [(("found" : Str), v)]) a = none := by rw [upd_ne ne.symm]; exact ha
    have h2 := h1.newD (o := exo a C (some d)) ha1
    exact k a d _ _ h2 ((Ex.new (h.free hd)).trans (Ex.new (h1.free ha1))) upd_same (by rw [upd_ne ne, upd_same])⟩
theorem mkX_use {H D : Hp} {R : List (Addr × HO)} {v : V} {C : Addr} {E : XK} (h : HI H R D) (k : ∀ d H' D', HI H' R D' → Ex D D' → D' d = some (.xd [(("found" : Str), v)]) → E (.ref C) (some d) H') :
    ∃ w, [v] = [w] ∧ ∀ d, H d = none → E (.ref C) (some d) (upd H d (.xd [(("found" : Str), w)])) :=
  ⟨v, rfl, fun d hd => k d _ _ (h.newD hd) (Ex.new (h.free hd)) upd_same⟩
end Wk
set_option maxRecDepth 100000
set_option maxHeartbeats 4000000
namespace Wk
open PySem PySem.Spec PyProof.Rows L2
/-- at e: an exception of the class at C, its args at t1 -/
def exq (e C : Addr) (d : Option Addr) (t1 : Addr) : HO := .ext fun h => h.get? e = some ({ cls := .ref C, dict := d, data := .fields #[.ref t1, .none, .none, .none, .bool false, .none] } : Obj)
theorem exq_at {P : Program} {w : World} {H : Hp} {h : Heap} {e C t1 : Addr} {d : Option Addr} (hok : HOk P w H h) (he : H e = some (exq e C d t1)) : h.get? e = some ({ cls := .ref C, dict := d, data := .fields #[.ref t1, .none, .none, .none, .bool false, .none] } : Obj) := by
  have x : ObjOk P w H h e (.ext fun h => h.get? e = some ({ cls := .ref C, dict := d, data := .fields #[.ref t1, .none, .none, .none, .bool false, .none] } : Obj)) := hok e _ he
  exact x.1
/-- what is made: the args, the dict, the exception -/
def mkd (a C d t1 : Addr) (z : Str) (v : V) (H : Hp) : Hp := upd (upd (upd H t1 (.tup [.str z])) d (exd d [(("found" : Str), v)])) a (exq a C (some d) t1)
section
variable {X : Cx} {e : Expr} {te : TE} {ta : TA} {p pos : Pos} {C fI : Addr} {n z : Str} {k : Nat}
/-- C(e) -/
def tMkQ (C : Addr) (z : Str) (ta : TA) : TE := fun σ H Q => ta σ H fun vs H1 => ∃ v, vs = [v] ∧ ∀ a d t1, H1 a = none → H1 d = none → H1 t1 = none → d ≠ a → t1 ≠ a → d ≠ t1 → Q (.ref a) (mkd a C d t1 z v H1)
end
/-- the same over the heap in two parts -/
def MkQP (C : Addr) (z : Str) (vs : List V) (H : Hp) (Q : VK) : Prop := ∃ v, vs = [v] ∧ ∀ a d t1, H a = none → H d = none → H t1 = none → d ≠ a → t1 ≠ a → d ≠ t1 → Q (.ref a) (mkd a C d t1 z v H)
theorem se_mkQ {C : Addr} {z : Str} {ta : TA} {σ : L2.St} {H : Hp} {Q : VK} (h : ta σ H fun vs H1 => MkQP C z vs H1 Q) : tMkQ C z ta σ H Q := h
theorem mkQ_now {H D : Hp} {R : List (Addr × HO)} {v : V} {C : Addr} {z : Str} {Q : VK} (h : HI H R D) (k : ∀ a d t1 H' D', HI H' R D' → Ex D D' → D' a = some (exq a C (some d) t1) → D' d = some (exd d [(("found" : Str), v)]) → D' t1 = some (.tup [.str z]) → Q (.ref a) H') : MkQP C z [v] H Q :=
  ⟨v, rfl, fun a d t1 ha hd ht n1 n2 n3 => by
    have h0 := h.newD (o := .tup [.str z]) ht
    have hd1 : upd H t1 (.tup [.str z]) d = none := by rw [upd_ne n3]; exact hd
    have h1 := h0.newD (o := exd d [(("found" : Str), v)]) hd1
    have ha1 : upd (upd H t1 (.tup [.str z])) d (exd d [(("found" : Str), v)]) a = none := by rw [upd_ne n1.symm, upd_ne n2.symm]; exact ha
    have h2 := h1.newD (o := exq a C (some d) t1) ha1
    exact k a d t1 _ _ h2 ((Ex.new (h.free ht)).trans ((Ex.new (h0.free hd1)).trans (Ex.new (h1.free ha1)))) upd_same (by rw [upd_ne n1, upd_same]) (by rw [upd_ne n2, upd_ne n3.symm, upd_same])⟩
end Wk
set_option maxRecDepth 100000
set_option maxHeartbeats 4000000
namespace Wk
open PySem PySem.Spec PyProof.Rows L2
/-- values picked by places -/
def gI {α : Type} (idx : List Nat) (l : List α) : List α := idx.filterMap fun i => l[i]?
theorem vals_gI {vs : List V} {us : List Value} (r : Vals vs us) : ∀ idx : List Nat, Vals (Wk.gI idx vs) (Wk.gI idx us)
  | [] => .nil
  | i :: idx => by
    unfold Wk.gI
    rw [List.filterMap_cons, List.filterMap_cons]
    have ih := vals_gI r idx
    unfold Wk.gI at ih
    have one : ∀ {vs : List V} {us : List Value} (i : Nat), Vals vs us → (vs[i]? = none ∧ us[i]? = none) ∨ ∃ v u, vs[i]? = some v ∧ us[i]? = some u ∧ RelV v u := by
      intro vs us i r
      induction r generalizing i with
      | nil => exact .inl ⟨rfl, rfl⟩
      | cons a b ih =>
        cases i with
        | zero => exact .inr ⟨_, _, rfl, rfl, a⟩
        | succ j => exact ih j
    rcases one i r with ⟨e1, e2⟩ | ⟨v, u, e1, e2, rr⟩
    · rw [e1, e2]
      exact ih
    · rw [e1, e2]
      exact .cons rr ih
/-- n positional values and keywords ks bind; gV puts all values in the parameters' order -/
def KB (K : PySem.W.Frag) (fd : FuncData) (ps : List Str) (n : Nat) (ks : List Str) (gV : List V → List V → List V) : Prop := ∃ g, KBn K fd ps n ks g gV
section
variable {K : PySem.W.Frag} {x qual : Str} {st : Stmt} {dvs : List V} {f : Addr} {ps ks : List Str} {n : Nat}
/-- no defaults -/
theorem kb_n (F : FD K x qual st [] f) (g : {α : Type} → List α → List α → List α) (hrel : ∀ {vs zs : List V} {us ws : List Value}, Vals vs us → Vals zs ws → Vals (g vs zs) (g us ws))
    (h : ∀ (kV doc pm : Value) (an : Option Addr) (cdv ct : Value) (us ws : List Value), us.length = n → ws.length = ks.length → bindArgs (PySem.W.fnOf x qual (defArgs st) (defBody st) (defScope st) .none kV doc pm an cdv ct) ⟨us, ks.zip ws⟩ = pure (ps.zip (g us ws))) :
    KB K (fdOf K f) ps n ks g := by
  obtain ⟨oc, od, dV, kV, doc, pm, an, cdv, ct, osl, e, lk, hcd, hD, hK⟩ := FunD.ex F
  refine ⟨g, ⟨fun s us ws X l1 l2 => ?_, fun r1 r2 => hrel r1 r2⟩⟩
  rw [e]
  rcases hD with ⟨_, rfl⟩ | ⟨e, _⟩
  · exact .of_eq (h kV doc pm an cdv ct us ws l1 l2)
  · exact absurd rfl e
/-- defaults -/
theorem kb_d (F : FD K x qual st dvs f) (hd : dvs ≠ []) (g : {α : Type} → List α → List α → List α → List α) (hrel : ∀ {vs ds zs : List V} {us its ws : List Value}, Vals vs us → Vals ds its → Vals zs ws → Vals (g vs ds zs) (g us its ws))
    (h : ∀ (T : Addr) (kV doc pm : Value) (an : Option Addr) (cdv ct : Value) (us its ws : List Value), us.length = n → its.length = dvs.length → ws.length = ks.length →
      ∃ k, bindArgs (PySem.W.fnOf x qual (defArgs st) (defBody st) (defScope st) (.ref T) kV doc pm an cdv ct) ⟨us, ks.zip ws⟩ = seqItems? (.ref T) >>= k ∧ k (some its.toArray) = pure (ps.zip (g us its ws))) :
    KB K (fdOf K f) ps n ks (fun vs zs => g vs dvs zs) := by
  obtain ⟨oc, od, dV, kV, doc, pm, an, cdv, ct, osl, e, lk, hcd, hD, hK⟩ := FunD.ex F
  rcases hD with ⟨e, _⟩ | ⟨_, T, o, its, m, rfl, lT, oT, rT⟩
  · exact absurd e hd
  · refine ⟨fun us ws => g us its ws, ⟨fun s us ws X l1 l2 => ?_, fun r1 r2 => hrel r1 rT r2⟩⟩
    obtain ⟨k, e1, e2⟩ := h T kV doc pm an cdv ct us its ws l1 rT.length.symm l2
    refine BindsTo.of_looks fun M => ?_
    rw [e, e1]
    exact looks_items X lT oT (.of_pure e2)
end
def gCallN (n m : Nat) (sp : Sp) (gV : List V → List V → List V) (E : L2.St → XK) (t tk : TA) : TE := fun σ H Q => t σ H fun vs H1 => tk σ H1 fun zs H2 => vs.length = n ∧ zs.length = m ∧ sp (gV vs zs) H2 Q (E σ)
section
variable {X : Cx} {k n : Nat} {f C : Addr} {ps ks : List Str} {sp : Sp} {E : L2.St → XK} {x m : Str} {p pos apos : Pos} {e o : Expr} {es : List Expr} {kws : List Keyword} {t tk ta : TA} {to : TE} {gV : List V → List V → List V}
theorem run_gN {pins : List (Addr × Obj)} {σ : L2.St} {H : Hp} {s : Shared} {Q : VK} {us ws : List Value} {vs zs : List V} (F : FnG X.prog X.w X.K X.mg X.base k f ps sp) (hgu : X.A.guards = some []) (hr : Room k X.A) (hb : KB X.K (fdOf X.K f) ps n ks gV) (hx : PassG X σ (E σ))
    (I : Inv X pins σ H s) (r : Vals vs us) (rz : Vals zs ws) (l1 : vs.length = n) (l2 : zs.length = ks.length) (h : sp (gV vs zs) H Q (E σ)) : wpAny (model X.prog X.w) X.A (call (.ref f) us (ks.zip ws)) (EP X pins σ Q) X.xe s := by
  obtain ⟨g, hb⟩ := hb
  have r2 := hb.rel r rz
  refine wpAny_call (codeAny_mono (F.run X.A X.stack s H ⟨us, ks.zip ws⟩ (g us ws) (gV vs zs) Q (E σ) hgu hr I.env0 (hb.to s us ws I.kIn (r.length.symm.trans l1) (rz.length.symm.trans l2)) r2 h) fun r s' hq => ?_)
  cases r with
  | error e => exact hx pins H s e s' I hq
  | ok fl =>
    cases fl with
    | ret u => exact I.after hq
    | next => exact False.elim hq
    | brk => exact False.elim hq
    | cont => exact False.elim hq
theorem se_callN {σ : L2.St} {H : Hp} {Q : VK} {n m : Nat} (h : t σ H fun vs H1 => tk σ H1 fun zs H2 => vs.length = n ∧ zs.length = m ∧ sp (gV vs zs) H2 Q (E σ)) : gCallN n m sp gV E t tk σ H Q := h
theorem se_call1 {σ : L2.St} {H : Hp} {Q : VK} {dvs : List V} (h : t σ H fun vs H1 => sp (vs ++ dvs) H1 Q (E σ)) : gCall sp dvs E t σ H Q := h
end
inductive Knd where
  | non | bl | int | str | lst | tup | dict | oth
deriving DecidableEq
def Knd.is : Knd → String → Bool
  | .non, n => n == "NoneType"
  | .bl, n => n == "bool" || n == "int"
  | .int, n => n == "int"
  | .str, n => n == "str"
  | .lst, n => n == "list"
  | .tup, n => n == "tuple"
  | .dict, n => n == "dict"
  | .oth, _ => false
def six : List String := ["int", "bool", "str", "list", "tuple", "dict"]
/-- the class's instances are none of the six -/
def Six (K : PySem.W.Frag) (C : Addr) : Prop := ∀ n ∈ six, PySem.W.kitOne K (.ref C) (.type n) = some false
def sixB (x : Str) (K : PySem.W.Frag) : Bool := six.all fun n => eqB (PySem.W.kitOne K (.ref (He.ga K x)) (.type n)) (some false)
/-- what the class of an own plain class says, so that isinstance may ask its instances -/
structure InsC (K : PySem.W.Frag) (C : Addr) : Prop where
  cl : Cls K C
  ha : PySem.W.findIn K (.ref C) "__class__" = some (some (.builtin "object.__class__"))
  hn : PySem.W.specialIn K (.builtin "object.__class__") "__get__" = some (some (.builtin "getset_descriptor.__get__"))
  ht : PySem.W.takesIn K (.builtin "object.__class__") = some true
  hm : PySem.W.mroIn K C (.type "object") = some true
/-- a value's kind -/
inductive Kn (K : PySem.W.Frag) (H : Hp) : V → Knd → Prop where
  | non : Kn K H .non .non
  | bl (b : Bool) : Kn K H (.bl b) .bl
  | int (i : Int) : Kn K H (.int i) .int
  | str (x : Str) : Kn K H (.str x) .str
  | lst {a : Addr} {xs : List V} (e : H a = some (.lst xs)) : Kn K H (.ref a) .lst
  | frz {a : Addr} {o : Obj} {xs : List V} (e : H a = some (.frz o (.lst xs))) : Kn K H (.ref a) .lst
  | tup {a : Addr} {xs : List V} (e : H a = some (.tup xs)) : Kn K H (.ref a) .tup
  | dict {a : Addr} {kvs : List (Key × V)} (e : H a = some (.dK kvs)) : Kn K H (.ref a) .dict
  | exc {a d C : Addr} {fs : List (Str × V)} (e : H a = some (exo a C (some d))) (ed : H d = some (exd d fs)) (c : ExcC K C) (s : Six K C) : Kn K H (.ref a) .oth
  | excq {a d C t1 : Addr} {fs : List (Str × V)} (e : H a = some (exq a C (some d) t1)) (ed : H d = some (exd d fs)) (c : ExcC K C) (s : Six K C) : Kn K H (.ref a) .oth
  | ins {a C dx : Addr} {fs : List (Str × V)} (e : H a = some (.ins C dx fs)) (c : InsC K C) (s : Six K C) : Kn K H (.ref a) .oth
theorem Kn.mono {K : PySem.W.Frag} {H H' : Hp} {v : V} {k : Knd} (h : Kn K H v k) (x : Ex H H') : Kn K H' v k := by
  cases h with
  | non => exact .non
  | bl b => exact .bl b
  | int i => exact .int i
  | str z => exact .str z
  | lst e => exact .lst (x _ _ e)
  | frz e => exact .frz (x _ _ e)
  | tup e => exact .tup (x _ _ e)
  | dict e => exact .dict (x _ _ e)
  | exc e ed c s => exact .exc (x _ _ e) (x _ _ ed) c s
  | excq e ed c s => exact .excq (x _ _ e) (x _ _ ed) c s
  | ins e c s => exact .ins (x _ _ e) c s
theorem HI.kn {K : PySem.W.Frag} {H D : Hp} {R : List (Addr × HO)} {v : V} {k : Knd} (h : HI H R D) (r : Kn K D v k) : Kn K H v k := r.mono h.sub
abbrev Six0 (a : String) (k : Knd) : Prop := ∀ n ∈ six, kitB a n = some (k.is n)
section
variable {prog : Program} {w : World} {A : Around} {E : Value → Shared → Prop} {s : Shared} {K : PySem.W.Frag} {x D : Addr} {ox od : Obj}
open PySem.W PySem.Calls in
theorem kin_classX {Q : Option Value → Shared → Prop} (C : ExcC K D)
    (X : K.In s.heap) (I : InstAt s.heap x ox D (some od)) (h : Q (some (.ref D)) { s with toks := s.toks + 1 }) : wpAny (model prog w) A (getAttr? (.ref x) "__class__") Q E s := by
  have hga := C.hg
  have hgt := C.hk
  have hsub := C.hs
  have hdct := C.hd
  have ha := C.ha
  have hn := C.hn
  have htk := C.ht
  have hm := C.hm
  have hf : findObj K D (some od) "__class__" = some (.bind (.builtin "getset_descriptor.__get__") (.builtin "object.__class__")) := findObj_data (by obtain ⟨cd, hc, _⟩ := any_some hdct; rw [hc]; rfl) ha hn htk
  obtain ⟨hp, g, d, t, os⟩ := s
  have L0 := I.type (M := model prog w)
  have L1 := looks_findIn (M := model prog w) X hga
  have L2 := looks_findIn (M := model prog w) X hgt
  have L3 := looks_find (M := model prog w) X I hf
  have sub : Looks (model prog w) hp (isInstance (.ref x) (.type "BaseException")) true := L0.andThen (looks_subIn X hsub)
  have hx0 : (false && onTheHeap (Value.builtin "BaseException.__getattribute__")) = false := rfl
  have hx2 : (Value.builtin "BaseException.__getattribute__" == Value.builtin "object.__getattribute__") = false := by decide +kernel
  have hx1 : (onTheHeap (Value.ref D) && Value.builtin "BaseException.__getattribute__" == Value.builtin "object.__getattribute__") = false := by rw [hx2]; rfl
  unfold getAttr? getAttrBy? getAttrBy
  refine wpAny_bind (wpAny_mkText (wpAny_bind (wpAny_attempt (wpAny_holding (wpAny_bind (L0.at (wpAny_bind (L1.at ?_))))))))
  show wpAny _ _ (if (onTheHeap (Value.ref D) && Value.builtin "BaseException.__getattribute__" == Value.builtin "object.__getattribute__") = true then _ else _) _ _ _
  rw [hx1, if_neg Bool.false_ne_true]
  unfold getAttrByItsOwn hookBefore
  refine wpAny_bind ?_
  rw [if_pos (show onTheHeap (Value.ref D) = true from rfl)]
  refine L2.at ?_
  refine wpAny_bind (wpAny_attempt (wpAny_holding ?_))
  unfold callGetattribute
  rw [hx0, if_neg Bool.false_ne_true]
  unfold boundAndCalled
  rw [PySem.F.excAttr_ValueError.ga.bind (.ref x)]
  refine wpAny_bind (wpAny_pure ?_)
  show wpAny _ _ (call (.builtin "BaseException.__getattribute__") [.ref x, .str "__class__" t]) _ _ _
  refine wpAny_call (codeAny_call_builtin PySem.F.excAttr_ValueError.ga.plain PySem.F.entry_bexc_ga ?_)
  refine @check_slot (model prog w) _ _ ⟨hp, g, d, t + 1, os⟩ "BaseException.__getattribute__" "BaseException" "__getattribute__" (.ref x) [.str "__class__" t] [] _ (by decide +kernel) (by decide +kernel) sub (PySem.F.args_bexc_ga (.ref x) (.str "__class__" t)) ?_
  unfold Builtin.«object.__getattribute__»
  refine wpAny_bind (wpAny_of_eq (a := ((Value.ref x : Value), [Value.str "__class__" t])) (by first | rfl | (simp only [slotArgs]; rfl)) ?_)
  refine wpAny_bind (wpAny_pure (wpAny_bind (L0.at (wpAny_bind (L3.at ?_)))))
  show wpAny _ _ (holding [Value.builtin "object.__class__"] (call (.builtin "getset_descriptor.__get__") [.builtin "object.__class__", .ref x, .ref D]) >>= ret) _ _ _
  refine wpAny_bind (wpAny_holding (wpAny_call (class_get (s := ⟨hp, g, d, t + 1, os⟩) (ox := ox) (od := some od) X I hm ?_)))
  refine wpAny_pure ?_
  show wpAny _ _ (handedOut (.ref D)) _ _ _
  rw [handedOut_of (v := .ref D) rfl]
  first
    | exact wpAny_pure (wpAny_pure h)
    | exact wpAny_pure h
    | exact wpAny_pure (wpAny_bind (wpAny_pure (wpAny_pure h)))
open PySem.W PySem.Calls in
theorem kitx_X (C : ExcC K D) : KitX K (.ref x) (.ref D) (fun h => InstAt h x ox D (some od)) where
  ty := fun _ _ _ I => I.type
  it := fun _ _ X _ => by
    obtain ⟨cdD, hcD, _⟩ := any_some C.hd
    unfold clsIn at hcD
    split at hcD
    · rename_i c' d' cd' sl' ho
      intro A' Q' E' s' k q
      unfold isType loadHead
      exact wpAny_bind (wpAny_loadPart (k _ _ (X _ _ ho)) (wpAny_pure q))
    · cases hcD
  ne := fun h tp dd its n sl X htp => by
    obtain ⟨cdD, hcD, _⟩ := any_some C.hd
    refine Bool.eq_false_iff.mpr fun q => ?_
    have e : D = tp := Value.ref.inj (beq_iff_eq.mp q)
    subst e
    unfold clsIn at hcD
    split at hcD
    · rename_i c' d' cd' sl' ho
      have z := (X _ _ ho).symm.trans htp
      cases z
    · cases hcD
  ca := fun X I k => kin_classX C X I k
end
section
variable {X : Cx} {pins : List (Addr × Obj)} {σ : L2.St} {H : Hp} {s : Shared}
/-- the type of such a value, and what the library's rules ask -/
theorem kn_of {v : V} {u : Value} {k : Knd} (I : Inv X pins σ H s) (rx : RelV v u) (h : Kn X.K H v k) :
    ∃ (t : Value) (P : Heap → Prop), PySem.W.KitX X.K u t P ∧ P s.heap ∧ u ≠ .builtin "__main__.__loader__#opaque" ∧ ∀ n ∈ six, PySem.W.kitOne X.K t (.type n) = some (k.is n) := by
  have go : ∀ {t : Value}, TyX X.K H v t → (∀ n ∈ six, PySem.W.kitOne X.K t (.type n) = some (k.is n)) → ∃ (t : Value) (P : Heap → Prop), PySem.W.KitX X.K u t P ∧ P s.heap ∧ u ≠ .builtin "__main__.__loader__#opaque" ∧ ∀ n ∈ six, PySem.W.kitOne X.K t (.type n) = some (k.is n) := fun ty hk => by
    obtain ⟨P, Z, p, hx⟩ := kit_of I rx ty
    exact ⟨_, P, Z, p, hx, hk⟩
  have b : ∀ {a : String}, Six0 a k → ∀ n ∈ six, PySem.W.kitOne X.K (.type a) (.type n) = some (k.is n) := fun h n hn => kit_ty (h n hn)
  cases h with
  | non => exact go (.base .non) (b (by decide +kernel))
  | bl c => exact go (.base (.bl c)) (b (by decide +kernel))
  | int i => exact go (.base (.int i)) (b (by decide +kernel))
  | str z => exact go (.base (.str z)) (b (by decide +kernel))
  | lst e => exact go (.base (.lst e)) (b (by decide +kernel))
  | frz e => exact go (.base (.frz e)) (b (by decide +kernel))
  | tup e => exact go (.base (.tup e)) (b (by decide +kernel))
  | dict e => exact go (.base (.dK e)) (b (by decide +kernel))
  | ins e c s => exact go (.base (.ins e c.cl c.ha c.hn c.ht c.hm)) s
  | @exc a d C fs e ed c s =>
    cases (show u = Value.ref a from rx)
    obtain ⟨t1, ho⟩ := exo_at I.hok e
    obtain ⟨mA, hns, rel⟩ := exd_at I.hok ed
    obtain ⟨oD, _, _, hoD, _, _⟩ := hns.count (within_of rel)
    exact ⟨_, _, kitx_X (od := oD) c, ⟨ho, rfl, rfl, hoD⟩, (fun z => nomatch z), s⟩
  | @excq a d C t1 fs e ed c s =>
    cases (show u = Value.ref a from rx)
    have ho := exq_at I.hok e
    obtain ⟨mA, hns, rel⟩ := exd_at I.hok ed
    obtain ⟨oD, _, _, hoD, _, _⟩ := hns.count (within_of rel)
    exact ⟨_, _, kitx_X (od := oD) c, ⟨ho, rfl, rfl, hoD⟩, (fun z => nomatch z), s⟩
end
/-- isinstance(x, T), T one of the six -/
inductive RIsi (K : PySem.W.Frag) : List V → Hp → VK → Prop
  | ty {x : V} {n : String} {k : Knd} {H : Hp} {Q : VK} : Kn K H x k → n ∈ six → Q (.bl (k.is n)) H → RIsi K [x, .ty n] H Q
/-- isinstance(x, (T, ..)) -/
inductive RIsiT (K : PySem.W.Frag) : List V → Hp → VK → Prop
  | ty {x : V} {p : Addr} {ns : List String} {k : Knd} {H : Hp} {Q : VK} : Kn K H x k → H p = some (.tup (ns.map V.ty)) → (∀ n ∈ ns, n ∈ six) → Q (.bl (ns.any k.is)) H → RIsiT K [x, .ref p] H Q
theorem kitAny_map {K : PySem.W.Frag} {t : Value} {k : Knd} (h : ∀ n ∈ six, PySem.W.kitOne K t (.type n) = some (k.is n)) : ∀ ns : List String, (∀ n ∈ ns, n ∈ six) → PySem.W.kitAny K t (ns.map Value.type) = some (ns.any k.is)
  | [], _ => rfl
  | n :: ns, hn => by
    refine kitAny_cons (h n (hn n (List.mem_cons_self ..))) (fun e => ?_) fun e => ?_
    · rw [List.any_cons, e, Bool.false_or]
      exact kitAny_map h ns fun m hm => hn m (List.mem_cons_of_mem _ hm)
    · rw [List.any_cons, e, Bool.true_or]
theorem clsV_map : ∀ ns : List String, Paired ClsV (ns.map V.ty) (ns.map Value.type)
  | [] => .nil
  | n :: ns => .cons (.ty n) (clsV_map ns)
section
variable {X : Cx}
theorem call_isiU : CallR X (.builtin "isinstance") (RIsi X.K) := by
  intro pins s σ H xs us Q I r h
  cases h with
  | ty kn hn q =>
    obtain ⟨u1, u2, rfl, r1, r2⟩ := vals2 r
    cases (show u2 = Value.type _ from r2)
    obtain ⟨t, P, Z, p, hx, hk⟩ := kn_of I r1 kn
    exact PySem.W.kia_one Z I.kIn p (hk _ hn) hx fun tk => ⟨.bl _, H, I.tok tk, rfl, q⟩
theorem call_isiTU : CallR X (.builtin "isinstance") (RIsiT X.K) := by
  intro pins s σ H xs us Q I r h
  cases h with
  | @ty x tp ns k _ _ kn hT hn q =>
    obtain ⟨u1, u2, rfl, r1, r2⟩ := vals2 r
    cases (show u2 = Value.ref tp from r2)
    obtain ⟨t, P, Z, p, hx, hk⟩ := kn_of I r1 kn
    obtain ⟨_, its, rv, o, h1, h2, n, h3⟩ := (show ObjOk X.prog X.w H s.heap tp (.tup (ns.map V.ty)) from I.hok tp _ hT)
    have e3 := ClsV.all (clsV_map ns) rv
    subst e3
    obtain ⟨oc, od, dt, sl⟩ := o
    simp only at h2 h3
    subst h2 h3
    exact PySem.W.kia_tup Z I.kIn p h1 (kitAny_map hk ns hn) hx fun tk => ⟨.bl _, H, I.tok tk, rfl, q⟩
end
end Wk
set_option maxRecDepth 100000
set_option maxHeartbeats 4000000
namespace Wk
open PySem PySem.Spec PyProof.Rows L2
section
variable {K : PySem.W.Frag} {σ : L2.St} {H : Hp} {Q : VK} {ta tb tc te to : TE} {t tk : TA} {tl th : TO} {D : Ends}
theorem se_andV (h : ta σ H fun x H1 => ∃ c, x = .bl c ∧ if c = true then tb σ H1 Q else Q (.bl false) H1) : tAndV ta tb σ H Q := h
theorem se_orV (h : ta σ H fun x H1 => ∃ c, x = .bl c ∧ if c = true then Q (.bl true) H1 else tb σ H1 Q) : tOrV ta tb σ H Q := h
theorem se_notV (h : ta σ H fun x H1 => ∃ c, x = .bl c ∧ Q (.bl (!c)) H1) : tNotV ta σ H Q := h
theorem se_chain {r r' : R2} (h : ta σ H fun x H1 => tb σ H1 fun y H2 => r x y H2 fun z H3 => ∃ k, z = .bl k ∧ (if k = true then tc σ H3 fun w' H4 => r' y w' H4 Q else Q (.bl false) H3)) : tChain r r' ta tb tc σ H Q := h
theorem se_sl {r : V → Option Int → Option Int → Hp → VK → Prop} (h : te σ H fun x H1 => tl σ H1 fun l H2 => th σ H2 fun u H3 => r x l u H3 Q) : tSl r te tl th σ H Q := h
theorem so_none {P : Option Int → Hp → Prop} (h : P none H) : tNoPart σ H P := h
theorem so_some {P : Option Int → Hp → Prop} (h : te σ H fun x H1 => ∃ i, x = .int i ∧ P (some i) H1) : tPart te σ H P := h
theorem so_int {i : Int} {P : Int → Prop} (h : P i) : ∃ j, V.int i = .int j ∧ P j := ⟨i, rfl, h⟩
theorem se_m1 {r : V → List V → Hp → VK → Prop} (h : to σ H fun x H1 => (∃ a, x = .str a) ∧ te σ H1 fun y H2 => r x [y] H2 Q) : tM1 r to te σ H Q := h
theorem se_m0 {r : V → List V → Hp → VK → Prop} (h : to σ H fun x H1 => (∃ a, x = .str a) ∧ r x [] H1 Q) : tM0 r to σ H Q := h
theorem m_str {z : Str} {A : Prop} (h : A) : (∃ a, V.str z = .str a) ∧ A := ⟨⟨z, rfl⟩, h⟩
def MkEP (C : Addr) (vs : List V) (H : Hp) (Q : VK) : Prop := ∃ v, vs = [v] ∧ ∀ a d, H a = none → H d = none → d ≠ a → Q (.ref a) (upd (upd H d (exd d [(("found" : Str), v)])) a (exo a C (some d)))
def MkXP (C : Addr) (vs : List V) (H : Hp) (Q : XK) : Prop := ∃ v, vs = [v] ∧ ∀ d, H d = none → Q (.ref C) (some d) (upd H d (.xd [(("found" : Str), v)]))
theorem se_mkE {C : Addr} (h : t σ H fun vs H1 => MkEP C vs H1 Q) : tMkE C t σ H Q := h
theorem mkE_now {H D : Hp} {R : List (Addr × HO)} {v : V} {C : Addr} {Q : VK} (h : HI H R D) (k : ∀ a d H' D', HI H' R D' → Ex D D' → D' a = some (exo a C (some d)) → D' d = some (exd d [(("found" : Str), v)]) → Q (.ref a) H') : MkEP C [v] H Q := mkE_use h k
theorem st_raiseX {C : Addr} {W : L2.WX} (h : t σ H fun vs H1 => MkXP C vs H1 fun cls d H' => W cls d σ H') : tRaiseX C W t D σ H := h
theorem mkX_now {H D : Hp} {R : List (Addr × HO)} {v : V} {C : Addr} {Q : XK} (h : HI H R D) (k : ∀ d H' D', HI H' R D' → Ex D D' → D' d = some (.xd [(("found" : Str), v)]) → Q (.ref C) (some d) H') : MkXP C [v] H Q := mkX_use h k
theorem st_par {i j : Nat} (h : t σ H fun vs H1 => ∃ v w, vs = [v, w] ∧ D.nx ((σ.set i (some v)).set j (some w)) H1) : tPar i j t D σ H := h
theorem par_mk {x y : V} {P : V → V → Prop} (h : P x y) : ∃ v w, [x, y] = [v, w] ∧ P v w := ⟨x, y, rfl, h⟩
theorem st_aug {i : Nat} {ti : TIp} {x : V} (e : σ[i]? = some (some x)) (h : te σ H fun y H1 => ti x y H1 fun z H2 => D.nx (σ.set i (some z)) H2) : tAug i te ti D σ H := ⟨x, e, h⟩
inductive RMx : List V → Hp → VK → Prop
  | mk {i j : Int} {H : Hp} {Q : VK} : (∀ m, i ≤ m → j ≤ m → (m = i ∨ m = j) → Q (.int m) H) → RMx [.int i, .int j] H Q
inductive RMn : List V → Hp → VK → Prop
  | mk {i j : Int} {H : Hp} {Q : VK} : (∀ m, m ≤ i → m ≤ j → (m = i ∨ m = j) → Q (.int m) H) → RMn [.int i, .int j] H Q
inductive RAll : List V → Hp → VK → Prop
  | mk {p : Addr} {bs : List Bool} {H : Hp} {Q : VK} : H p = some (.lst (bs.map V.bl)) → Q (.bl (bs.all id)) H → RAll [.ref p] H Q
inductive RSum : List V → Hp → VK → Prop
  | mk {p : Addr} {ns : List Int} {H : Hp} {Q : VK} : H p = some (.lst (ns.map V.int)) → Q (.int ns.sum) H → RSum [.ref p] H Q
inductive RStarts : V → List V → Hp → VK → Prop
  | mk {x y : Str} {H : Hp} {Q : VK} : Q (.bl (Txt.startswith x y)) H → RStarts (.str x) [.str y] H Q
inductive RFind : V → List V → Hp → VK → Prop
  | mk {x y : Str} {H : Hp} {Q : VK} : Q (.int (Txt.find x y)) H → RFind (.str x) [.str y] H Q
/-- str(x) -/
inductive RStr : List V → Hp → VK → Prop
  | int {i : Int} {H : Hp} {Q : VK} : i.natAbs.log2 < 1920 → Q (.str (toString i)) H → RStr [.int i] H Q
/-- int(x) -/
inductive RInt : List V → Hp → VK → Prop
  | bl {b : Bool} {H : Hp} {Q : VK} : Q (.int (if b then 1 else 0)) H → RInt [.bl b] H Q
  | str {z : Str} {n : Int} {H : Hp} {Q : VK} : PySem.intText? z = some n → z.length ≤ 640 → Q (.int n) H → RInt [.str z] H Q
end
section
variable {X : Cx} {o e : Expr} {to te : TE}
theorem call_maxU (hc : X.calm = true) : CallR X (.builtin "max") RMx := by
  intro pins s σ H xs us Q I r h
  cases h with
  | @mk i j _ _ k =>
    refine call_max2 hc pins s σ H _ us Q I r ⟨i, j, rfl, ?_⟩
    by_cases c : j > i
    · rw [if_pos c]
      exact k j (by omega) (by omega) (.inr rfl)
    · rw [if_neg c]
      exact k i (by omega) (by omega) (.inl rfl)
theorem call_minU (hc : X.calm = true) : CallR X (.builtin "min") RMn := by
  intro pins s σ H xs us Q I r h
  cases h with
  | @mk i j _ _ k =>
    refine call_min2 hc pins s σ H _ us Q I r ⟨i, j, rfl, ?_⟩
    by_cases c : j < i
    · rw [if_pos c]
      exact k j (by omega) (by omega) (.inr rfl)
    · rw [if_neg c]
      exact k i (by omega) (by omega) (.inl rfl)
theorem call_allU (hc : X.calm = true) : CallR X (.builtin "all") RAll := by
  intro pins s σ H xs us Q I r h
  cases h with
  | mk e q => exact cr_all hc pins s σ H _ us Q I r ⟨_, _, rfl, SqL.of e, q⟩
theorem call_sumU (hc : X.calm = true) : CallR X (.builtin "sum") RSum := by
  intro pins s σ H xs us Q I r h
  cases h with
  | mk e q => exact cr_sum hc pins s σ H _ us Q I r ⟨_, _, rfl, SqL.of e, q⟩
end
theorem log2_small {i : Int} (h : i.natAbs < 2 ^ 200) : i.natAbs.log2 < 1920 := by
  by_cases z : i.natAbs = 0
  · rw [z]
    decide
  · have := (Nat.log2_lt z (k := 200)).mpr h
    omega
theorem pe_gi {X : Cx} {x : Str} {p : Pos} {i : Int} (hg : Gl X x) (h : ∃ t, X.mg x = some (.int i t)) (hdb : (x == ("__debug__" : Str)) = false := by decide) : PE X (.Name x p) (tC (.int i)) := let ⟨t, e⟩ := h; pe_glob hg e ⟨t, rfl⟩ hdb
section
variable {H : Hp} {Q : VK} {K : PySem.W.Frag}
theorem ru_mk {g : Int → V} {i : Int} (h : Q (g i) H) : rU g (.int i) H Q := ⟨i, rfl, h⟩
theorem req_int {i j : Int} (q : Q (.bl (decide (i = j))) H) : REq false (.int i) (.int j) H Q := .scal rfl (by
  have e : decide (V.int i = V.int j) = decide (i = j) := by simp
  rw [← e] at q
  exact q)
theorem rne_int {i j : Int} (q : Q (.bl (!decide (i = j))) H) : REq true (.int i) (.int j) H Q := .scal rfl (by
  have e : decide (V.int i = V.int j) = decide (i = j) := by simp
  rw [← e] at q
  exact q)
theorem req_str {i j : Str} (q : Q (.bl (decide (i = j))) H) : REq false (.str i) (.str j) H Q := .scal rfl (by
  have e : decide (V.str i = V.str j) = decide (i = j) := by simp
  rw [← e] at q
  exact q)
theorem rne_str {i j : Str} (q : Q (.bl (!decide (i = j))) H) : REq true (.str i) (.str j) H Q := .scal rfl (by
  have e : decide (V.str i = V.str j) = decide (i = j) := by simp
  rw [← e] at q
  exact q)
theorem ris_non {x : V} (q : Q (.bl (decide (x = .non))) H) : RIs false x .non H Q := .non q
theorem ris_nonN {x : V} (q : Q (.bl (!decide (x = .non))) H) : RIs true x .non H Q := .non q
theorem ris_bl {x : V} {b : Bool} (q : Q (.bl (decide (x = .bl b))) H) : RIs false x (.bl b) H Q := .bl q
theorem ris_blN {x : V} {b : Bool} (q : Q (.bl (!decide (x = .bl b))) H) : RIs true x (.bl b) H Q := .bl q
theorem rin_sign {c : Nat} {z : Str} (q : Q (.bl (decide (c ∈ z.cps.toList))) H) : RIn false (.str ⟨#[c]⟩) (.str z) H Q := .sign q
theorem rni_sign {c : Nat} {z : Str} (q : Q (.bl (!decide (c ∈ z.cps.toList))) H) : RIn true (.str ⟨#[c]⟩) (.str z) H Q := .sign q
end
theorem Ex.of {D D' : Hp} {a : Addr} {o : HO} (h : D a = some o) (x : Ex D D') : D' a = some o := x a o h
/-- a short text of plain signs -/
structure TxtOk (z : Str) : Prop where
  len : z.length ≤ 1000
  sg : ∀ c ∈ z.cps.toList, c < 1000
theorem TxtOk.ok {z : Str} (h : TxtOk z) : PyData.strOk z = true := by
  unfold PyData.strOk
  rw [Array.all_eq_true']
  intro c hc
  have := h.sg c (by simpa using hc)
  simp
  omega
theorem TxtOk.sign {z : Str} {c : Nat} (h : TxtOk z) (m : c ∈ z.cps.toList) : TxtOk ⟨#[c]⟩ := ⟨by show 1 ≤ 1000; decide, fun d hd => by
  simp at hd
  rw [hd]
  exact h.sg c m⟩
/-- how a value may be told apart -/
theorem Kn.told {K : PySem.W.Frag} {H : Hp} {v : V} {k : Knd} (h : Kn K H v k) : (v = .non ∧ k = .non) ∨ (∃ b, v = .bl b ∧ k = .bl) ∨ (∃ i, v = .int i ∧ k = .int) ∨ (∃ z, v = .str z ∧ k = .str) ∨ (∃ a, v = .ref a ∧ (k = .lst ∨ k = .tup ∨ k = .dict ∨ k = .oth)) := by
  cases h with
  | non => exact .inl ⟨rfl, rfl⟩
  | bl b => exact .inr (.inl ⟨b, rfl, rfl⟩)
  | int i => exact .inr (.inr (.inl ⟨i, rfl, rfl⟩))
  | str z => exact .inr (.inr (.inr (.inl ⟨z, rfl, rfl⟩)))
  | lst e => exact .inr (.inr (.inr (.inr ⟨_, rfl, .inl rfl⟩)))
  | frz e => exact .inr (.inr (.inr (.inr ⟨_, rfl, .inl rfl⟩)))
  | tup e => exact .inr (.inr (.inr (.inr ⟨_, rfl, .inr (.inl rfl)⟩)))
  | dict e => exact .inr (.inr (.inr (.inr ⟨_, rfl, .inr (.inr (.inl rfl))⟩)))
  | exc e ed c s => exact .inr (.inr (.inr (.inr ⟨_, rfl, .inr (.inr (.inr rfl))⟩)))
  | excq e ed c s => exact .inr (.inr (.inr (.inr ⟨_, rfl, .inr (.inr (.inr rfl))⟩)))
  | ins e c s => exact .inr (.inr (.inr (.inr ⟨_, rfl, .inr (.inr (.inr rfl))⟩)))
theorem atI_nat {α : Type} {xs : List α} {i : Nat} : atI xs (i : Int) = xs[i]? := by
  unfold atI ixN
  rw [if_pos (by omega)]
  by_cases h : i < xs.length
  · rw [if_pos (by omega)]
    simp
  · rw [if_neg (by omega)]
    simp at h
    simp [h]
theorem atI_map {α β : Type} {f : α → β} {xs : List α} {i : Nat} {x : α} (h : xs[i]? = some x) : atI (xs.map f) (i : Int) = some (f x) := by
  rw [atI_nat, List.getElem?_map, h]
  rfl
theorem atI_ofI {α : Type} {xs : List α} {i : Int} (h : 0 ≤ i) : atI xs i = xs[i.toNat]? := by
  obtain ⟨n, rfl⟩ := Int.eq_ofNat_of_zero_le h
  rw [atI_nat]
  rfl
end Wk
set_option maxRecDepth 100000
set_option maxHeartbeats 4000000
namespace Wk
open PySem PySem.Spec PyProof.Rows L2
/-- every sign is a plain one -/
def Sg (z : Str) : Prop := ∀ c ∈ z.cps.toList, c < 1000
theorem sg_of {z : Str} (h : (z.cps.toList.all fun c => decide (c < 1000)) = true) : Sg z := fun c hc => of_decide_eq_true (List.all_eq_true.mp h c hc)
theorem len_app (a b : Str) : (a ++ b).length = a.length + b.length := PySem.Str.length_append a b
theorem tl_app (a b : Str) : (a ++ b).cps.toList = a.cps.toList ++ b.cps.toList := by
  rw [PySem.Str.cps_append]
  simp
theorem Sg.app {a b : Str} (h : Sg a) (k : Sg b) : Sg (a ++ b) := fun c hc => by
  rw [tl_app] at hc
  rcases List.mem_append.mp hc with h1 | h1
  · exact h c h1
  · exact k c h1
theorem Sg.cut {z : Str} (h : Sg z) (lo hi : Option Int) : Sg (cutS z lo hi) := fun c hc => by
  unfold cutS at hc
  simp only at hc
  exact h c (List.mem_of_mem_drop (List.mem_of_mem_take (by simpa using hc)))
theorem len_cut (z : Str) (lo hi : Option Int) : (cutS z lo hi).length ≤ z.length := by
  show ((z.cps.toList.drop _).take _).toArray.size ≤ z.length
  rw [List.size_toArray, List.length_take, List.length_drop, cps_len0]
  omega
where cps_len0 {z : Str} : z.cps.toList.length = z.length := rfl
theorem Sg.one {z : Str} {c : Nat} (h : Sg z) (m : c ∈ z.cps.toList) : Sg ⟨#[c]⟩ := fun d hd => by
  simp at hd
  rw [hd]
  exact h c m
/-- a slice, a sum of texts, told by what they are made of alone -/
theorem rsl_some {z : Str} {lo hi : Option Int} {H : Hp} {Q : VK} (hl : z.length ≤ 1000000) (s : Sg z) (k : ∀ y, y.length ≤ z.length → Sg y → Q (.str y) H) : RSl (.str z) lo hi H Q := RSl.str (small_ok hl) (k _ (len_cut ..) (s.cut _ _))
theorem radd_some {a b : Str} {H : Hp} {Q : VK} (hl : a.length + b.length ≤ 1000000) (s1 : Sg a) (s2 : Sg b) (k : ∀ y, y.length = a.length + b.length → Sg y → Q (.str y) H) : RAdd (.str a) (.str b) H Q := RAdd.str (small_ok hl) (k _ (len_app ..) (s1.app s2))
theorem rep_size (a : Array Nat) : ∀ (n : Nat) (acc : Array Nat), ((List.replicate n a).foldl (· ++ ·) acc).size = acc.size + a.size * n
  | 0, acc => by simp
  | n + 1, acc => by
    rw [List.replicate_succ, List.foldl_cons, rep_size a n, Array.size_append, Nat.mul_succ]
    omega
theorem rep_mem (a : Array Nat) {c : Nat} : ∀ (n : Nat) (acc : Array Nat), c ∈ ((List.replicate n a).foldl (· ++ ·) acc).toList → c ∈ acc.toList ∨ c ∈ a.toList
  | 0, acc, h => .inl h
  | n + 1, acc, h => by
    rw [List.replicate_succ, List.foldl_cons] at h
    rcases rep_mem a n _ h with q | q
    · rw [Array.toList_append] at q
      exact List.mem_append.mp q
    · exact .inr q
theorem rmul_some {a : Str} {n : Int} {H : Hp} {Q : VK} (a0 : a.length = 1) (k0 : 1 ≤ n) (k1 : n ≤ 1000) (s : Sg a) (k : ∀ y, y.length = n.toNat → Sg y → Q (.str y) H) : RMul (.str a) (.int n) H Q := by
  refine RMul.str (by omega) (by omega) k0 k1 (k _ ?_ fun c hc => ?_)
  · show ((List.replicate n.toNat a.cps).foldl (· ++ ·) #[]).size = _
    rw [rep_size, show a.cps.size = 1 from a0]
    simp
  · rcases rep_mem a.cps n.toNat #[] hc with q | q
    · simp at q
    · exact s c q
theorem tst {i : Int} (h : i.natAbs < 10 ^ 30) : (Str.ofString (toString i)).length ≤ 31 ∧ Sg (Str.ofString (toString i)) := by
  refine ⟨?_, fun c hc => ?_⟩
  · rw [PySem.ofString_length]
    exact PySem.int_text_length_le10 (by decide) h
  · by_cases q : c < 1000
    · exact q
    · exact absurd hc (PyProof.Rows.int_text_free' c ⟨by omega, by omega⟩ i)
/-- texts of one plain sign each -/
def Ones (ys : List Str) : Prop := ∀ y ∈ ys, y.length = 1 ∧ Sg y
theorem Ones.sum : ∀ {ys : List Str}, Ones ys → (ys.map (·.length)).sum = ys.length
  | [], _ => rfl
  | y :: ys, h => by
    have ih := Ones.sum (ys := ys) fun z hz => h z (List.mem_cons_of_mem _ hz)
    have e := (h y (List.mem_cons_self ..)).1
    simp only [List.map_cons, List.sum_cons, List.length_cons, ih, e]
    omega
theorem Ones.snoc {ys : List Str} {z : Str} {c : Nat} (h : Ones ys) (hz : Sg z) (m : c ∈ z.cps.toList) : Ones (ys ++ [⟨#[c]⟩]) := fun y hy => by
  rcases List.mem_append.mp hy with h1 | h1
  · exact h y h1
  · rw [List.mem_singleton.mp h1]
    exact ⟨rfl, hz.one m⟩
/-- a drawn thing -/
def Th (K : PySem.W.Frag) (D : Hp) (v : V) : Prop := (∃ k, Kn K D v k) ∧ ∀ z, v = .str z → TxtOk z
theorem Th.kn {K : PySem.W.Frag} {D : Hp} {v : V} {k : Knd} (h : Kn K D v k) (n : ∀ z, v ≠ .str z := by intro z e; cases e) : Th K D v := ⟨⟨k, h⟩, fun z e => absurd e (n z)⟩
theorem Th.str {K : PySem.W.Frag} {D : Hp} {z : Str} (h : TxtOk z) : Th K D (.str z) := ⟨⟨_, .str z⟩, fun y e => by cases e; exact h⟩
theorem Th.mono {K : PySem.W.Frag} {D D' : Hp} {v : V} (h : Th K D v) (x : Ex D D') : Th K D' v := by
  obtain ⟨⟨k, a⟩, b⟩ := h
  exact ⟨⟨k, a.mono x⟩, b⟩
/-- one of the items -/
theorem atI_all {α : Type} {xs : List α} {P : α → Prop} {r : Int} (h : ∀ v ∈ xs, P v) (h0 : 0 ≤ r) (h1 : r < xs.length) : ∃ v, atI xs r = some v ∧ P v := by
  obtain ⟨n, rfl⟩ := Int.eq_ofNat_of_zero_le h0
  have hn : n < xs.length := by omega
  refine ⟨xs[n], ?_, h _ (List.getElem_mem hn)⟩
  rw [atI_nat]
  exact List.getElem?_eq_getElem hn
theorem all_c {α : Type} {x : α} {xs : List α} {P : α → Prop} (a : P x) (b : ∀ v ∈ xs, P v) : ∀ v ∈ x :: xs, P v := fun v hv => by
  rcases List.mem_cons.mp hv with e | e
  · rw [e]
    exact a
  · exact b v e
theorem all_n {α : Type} {P : α → Prop} : ∀ v ∈ ([] : List α), P v := fun v hv => by cases hv
/-- a list of which one item is taken -/
theorem RIx.pick {p : Addr} {xs : List V} {P : V → Prop} {r : Int} {H : Hp} {Q : VK} (e : H p = some (.lst xs)) (h : ∀ v ∈ xs, P v) (h0 : 0 ≤ r) (h1 : r < xs.length) (q : ∀ v, P v → Q v H) : RIx (.ref p) (.int r) H Q := by
  obtain ⟨v, e2, hv⟩ := atI_all h h0 h1
  exact RIx.l e e2 (q v hv)
theorem RIx.pickI {p : Addr} {xs : List V} {lo hi r : Int} {H : Hp} {Q : VK} (e : H p = some (.lst xs)) (h : ∀ v ∈ xs, ∃ i : Int, v = .int i ∧ lo ≤ i ∧ i ≤ hi) (h0 : 0 ≤ r) (h1 : r < xs.length) (q : ∀ i : Int, lo ≤ i → i ≤ hi → Q (.int i) H) : RIx (.ref p) (.int r) H Q := RIx.pick e h h0 h1 fun v ⟨i, e, a, b⟩ => by rw [e]; exact q i a b
section
variable {K : PySem.W.Frag} {σ : L2.St} {H : Hp} {Q : VK}
theorem se_dnewK (h : AlD (.dK []) H Q) : tDNewK σ H Q := h
def DispP (p : Addr) (ps : List (V × V)) (H : Hp) (Q : VK) : Prop := H p = some (.dK []) ∧ ∃ kvs : List (Key × V), ps = kvs.map (fun kv => (kV kv.1, kv.2)) ∧ kvs.length ≤ 15 ∧ Q (.ref p) (upd H p (.dK (mergeK [] kvs)))
theorem se_disp {D : Hp} {R : Cells} {trs : List (TE × TE)} (hi : HI H R D) (h : ∀ p H1, HI H1 ((p, .dK []) :: R) D → tPairs trs σ H1 fun ps H2 => DispP p ps H2 Q) : tDisp trs σ H Q := fun p hp => h p _ (hi.new hp)
theorem sp_nil {N : List (V × V) → Hp → Prop} (h : N [] H) : tPairs [] σ H N := h
theorem sp_cons {tk tv : TE} {trs : List (TE × TE)} {N : List (V × V) → Hp → Prop} (h : tk σ H fun x H1 => tv σ H1 fun y H2 => tPairs trs σ H2 fun ps H3 => N ((x, y) :: ps) H3) : tPairs ((tk, tv) :: trs) σ H N := h
def keysOf : List (V × V) → Option (List (Key × V))
  | [] => some []
  | (.int i, v) :: r => (keysOf r).map fun l => (.inl i, v) :: l
  | (.str x, v) :: r => (keysOf r).map fun l => (.inr x, v) :: l
  | _ => none
theorem keysOf_ok : ∀ {ps : List (V × V)} {kvs : List (Key × V)}, keysOf ps = some kvs → ps = kvs.map fun kv => (kV kv.1, kv.2)
  | [], kvs, e => by
    cases e
    rfl
  | (x, v) :: r, kvs, e => by
    cases x with
    | int i =>
      obtain ⟨l, e1, rfl⟩ := Option.map_eq_some_iff.mp (show (keysOf r).map _ = some kvs from e)
      rw [keysOf_ok e1]
      rfl
    | str z =>
      obtain ⟨l, e1, rfl⟩ := Option.map_eq_some_iff.mp (show (keysOf r).map _ = some kvs from e)
      rw [keysOf_ok e1]
      rfl
    | _ => cases e
theorem disp_now {p : Addr} {ps : List (V × V)} {kvs : List (Key × V)} {R : Cells} {D : Hp} (hi : HI H ((p, .dK []) :: R) D) (e : keysOf ps = some kvs) (hl : kvs.length ≤ 15) (k : ∀ H' D', HI H' R D' → Ex D D' → D' p = some (.dK (mergeK [] kvs)) → Q (.ref p) H') : DispP p ps H Q :=
  ⟨hi.get (List.mem_cons_self ..), kvs, keysOf_ok e, hl, k _ _ (hi.set (u := .dK (mergeK [] kvs))).freeze (hi.set (u := .dK (mergeK [] kvs))).freezeX upd_same⟩
end
end Wk
set_option maxRecDepth 100000
set_option maxHeartbeats 4000000
namespace Wk
open PySem PySem.Spec PyProof.Rows L2
def noList (K : PySem.W.Frag) : Bool := K.all fun p => !(p.2.cls == .type "list")
theorem noList_ok : ∀ {K : PySem.W.Frag} {a : Addr} {o : Obj}, noList K = true → K.lookup a = some o → o.cls = .type "list" → False
  | [], a, o, _, e, _ => nomatch (show (none : Option Obj) = some o from e)
  | (b, ob) :: r, a, o, h, e, hc => by
    unfold noList at h
    rw [List.all_cons] at h
    obtain ⟨h1, h2⟩ := He.ba h
    have e2 : (match a == b with | true => some ob | false => List.lookup a r) = some o := e
    cases q : (a == b) with
    | true =>
      rw [q] at e2
      have eo : ob = o := Option.some.inj e2
      rw [eo, hc] at h1
      exact absurd h1 (by decide +kernel)
    | false =>
      rw [q] at e2
      exact noList_ok (K := r) h2 e2 hc
theorem law_endG {l : PySem.W.OpenLaw} {n k : Nat} {q : Program} {loose : List Str} {XP : (Str → Option Value) → Heap → Prop} {YP : World → Heap → Prop} {d : DefRec} {x : Str}
    (hn : l.most = some n) (hn2 : n ≤ sizeLine) (hdf : d.params.defaults = []) (hr : Room k callerA)
    (F : ∀ (w : World) (mg : Str → Option Value) (fa : Addr) (h : Heap), YP w h → h.Ns mainGlobals mg → mg d.name = some (.ref fa) →
      ∃ (K : PySem.W.Frag) (sp : Sp), K.In h ∧ noList K = true ∧ (∀ (s : Shared) (u : Value), BindsTo s (fdOf K fa) ⟨[u], []⟩ [(x, u)]) ∧
        (∀ (H : Hp) (a : Addr) (o : Obj) (ns : List Int), ns.length ≤ n → HI H [] H → H a = some (.frz o (.lst (ns.map V.int))) → sp [.ref a] H (fun v _ => v = .bl true) fun _ _ _ => False) ∧
        ∀ base : Heap, K.In base → base.Ns mainGlobals mg → FnG l.prog w K mg base k fa [x] sp) :
    PySem.W.WalkO q loose XP YP l.row.toRowW d [] (fun f vs => PySem.call f vs) := by
  refine Att.attach_call hn hdf fun w s₀ s₁ mg mb fa o pm cd doc a vs ns G Y ho hd hcd hmg hobj hints hlen hg => ?_
  obtain ⟨K, sp, KX, hno, hb, hsp, hF⟩ := F w mg fa _ Y G.T.g hmg
  have hns := G.T.g
  have ha := hobj
  have hl : ns.length ≤ sizeLine := Nat.le_trans hlen hn2
  have rv := vals_ints hints
  have hk : K.lookup a = none := by
    cases e : K.lookup a with
    | none => rfl
    | some ob =>
      have e1 := KX a ob e
      rw [ha] at e1
      cases e1
      exact (noList_ok hno e rfl).elim
  let H : Hp := fun b => if b = a then some (.frz { cls := .type "list", data := .seq vs.toArray } (.lst (ns.map V.int))) else none
  have Ha : H a = some (.frz { cls := .type "list", data := .seq vs.toArray } (.lst (ns.map V.int))) := if_pos rfl
  have Hn : ∀ {b : Addr}, b ≠ a → H b = none := fun hb => if_neg hb
  have Hs : ∀ {b : Addr} {u : HO}, H b = some u → b = a := fun {b u} z => by
    by_cases hb : b = a
    · exact hb
    · rw [Hn hb] at z
      cases z
  have hok : HOk l.prog w H s₁.heap := fun b u z => by
    have hb := Hs z
    subst hb
    rw [Ha] at z
    cases z
    exact ⟨ha, by rw [List.length_map]; exact hl, vs, _, rv, ha⟩
  have base_of : ∀ {b : Addr} {o : Obj}, s₁.heap.get? b = some o → H b = none → (hidT s₁.heap H).get? b = some o := fun e n => hidT_get e n
  have noA : ∀ {b : Addr} {o : Obj} {es : Array DictEntry} {ep : Nat}, s₁.heap.get? b = some o → o.data = .dict es ep → H b = none := fun {b o es ep} e d => by
    by_cases hb : b = a
    · subst hb
      rw [ha] at e
      cases e
      have d' : Data.seq vs.toArray _ = Data.dict es ep := d
      cases d'
    · exact Hn hb
  have nsK : ∀ {b : Addr} {m : Str → Option Value}, s₁.heap.Ns b m → (hidT s₁.heap H).Ns b m := fun {b m} ⟨o, es, ep, e, d, r⟩ => ⟨o, es, ep, base_of e (noA e d), d, r⟩
  have hKb : K.In (hidT s₁.heap H) := fun b o e => base_of (KX b o e) (by
    by_cases hb : b = a
    · rw [hb, hk] at e
      cases e
    · exact Hn hb)
  have hM : Mod K mg (hidT s₁.heap H) := ⟨hKb, nsK hns, ⟨mb, nsK G.T.b, G.T.builtins⟩, let ⟨mc, h1, h2⟩ := G.T.nolimit; ⟨mc, nsK h1, h2⟩⟩
  have e0 : Env0 l.prog w K mg (hidT s₁.heap H) callerA [] s₁ H := ⟨rfl, hM, fun b o e => of_hidT e, Nat.le_of_eq (hidT_size _ _), trivial, fun b hb => absurd (show b ∈ ([] : List Addr) from hb) (by simp), hok, .of_eq hg⟩
  have hI : HI H [] H := ⟨by simp, (fun p hp => by cases hp), fun b u z => z⟩
  refine codeAny_mono ((hF _ hKb (nsK hns)).run callerA [] s₁ H ⟨[.ref a], []⟩ [.ref a] [.ref a] _ _ rfl hr e0 (hb s₁ (.ref a)) (.cons rfl .nil) (hsp H a _ ns hlen hI Ha)) fun r s' h => ?_
  cases r with
  | error e =>
    obtain ⟨_, _, _, _, _, _, _, _, _, _, _, _, z⟩ := h
    exact z.elim
  | ok fl =>
    cases fl with
    | next => exact False.elim h
    | brk => exact False.elim h
    | cont => exact False.elim h
    | ret u =>
      obtain ⟨v, H', os, bare, un, hok', r', q⟩ := h
      have q' : v = .bl true := q
      subst q'
      obtain rfl : u = Value.bool true := r'
      refine ⟨rfl, OldK.of_keep fun b o e => ?_, os, bare⟩
      by_cases hb : b = a
      · subst hb
        have z2 := un.frzs b _ _ Ha
        obtain ⟨e2, _⟩ := hok' b _ z2
        rw [ha] at e
        cases e
        exact e2
      · exact un.keep b o e (Hn hb) (by intro z; exact absurd (show b ∈ ([] : List Addr) from z) (by simp)) (by simp)
end Wk
set_option maxRecDepth 100000
set_option maxHeartbeats 4000000
namespace Wk
open PySem PySem.Spec PyProof.Rows L2
section
variable {X : Cx} {k : Nat} {f C : Addr} {ps : List Str} {sp : Sp} {pins : List (Addr × Obj)} {σ : L2.St} {H : Hp} {s : Shared} {Q : VK}
theorem run_at {A : Around} {us : List Value} {vs : List V} (F : FnG X.prog X.w X.K X.mg X.base k f ps sp) (hgu : A.guards = some []) (hfr : A.frames = X.A.frames) (hr : Room k A) (hb : Binds X.K (fdOf X.K f) ps []) (I : Inv X pins σ H s) (r : Vals vs us)
    (h : sp vs H Q (fun _ _ _ => False)) : wpAny (model X.prog X.w) A (call (.ref f) us) (fun u s' => ∃ v H', Inv X pins σ H' s' ∧ RelV v u ∧ Q v H') X.xe s := by
  have e0 : Env0 X.prog X.w X.K X.mg X.base A X.stack s H := by
    have e := I.env0
    exact ⟨by rw [hfr]; exact e.frames, e.mod, e.bs, e.bsz, e.funs, e.frf, e.hok, e.bare⟩
  have hl := F.len _ _ _ _ h
  refine wpAny_call (codeAny_mono (F.run A X.stack s H ⟨us, []⟩ us vs Q _ hgu hr e0 (by
    have := hb s us I.kIn (by simp [← r.length, hl])
    simpa using this) r h) fun r s' hq => ?_)
  cases r with
  | error e =>
    obtain ⟨_, _, _, _, _, _, _, _, _, _, _, _, z⟩ := hq
    exact z.elim
  | ok fl =>
    cases fl with
    | ret u =>
      obtain ⟨v, H', I', rv, q⟩ := I.after hq
      exact ⟨v, H', I', rv, q⟩
    | next => exact False.elim hq
    | brk => exact False.elim hq
    | cont => exact False.elim hq
/-- the instance as the library's rules want it -/
theorem ins_at {a dx : Addr} {fs : List (Str × V)} (I : Inv X pins σ H s) (e : H a = some (.ins C dx fs)) : ∃ ox od, PySem.W.InstAt s.heap a ox C (some od) := by
  obtain ⟨mA, O, _⟩ := ins_get I.hok e
  obtain ⟨od, J, _⟩ := O.look
  exact ⟨_, od, J⟩
end
def seven : List String := ["NoneType", "int", "bool", "str", "list", "tuple", "dict"]
/-- an instance or an exception of an own class -/
inductive Ow (K : PySem.W.Frag) (H : Hp) : V → Addr → Prop where
  | exc {a d C : Addr} {fs : List (Str × V)} (e : H a = some (exo a C (some d))) (ed : H d = some (exd d fs)) (c : ExcC K C) : Ow K H (.ref a) C
  | excq {a d C t1 : Addr} {fs : List (Str × V)} (e : H a = some (exq a C (some d) t1)) (ed : H d = some (exd d fs)) (c : ExcC K C) : Ow K H (.ref a) C
  | ins {a C dx : Addr} {fs : List (Str × V)} (e : H a = some (.ins C dx fs)) (c : InsC K C) : Ow K H (.ref a) C
theorem Ow.mono {K : PySem.W.Frag} {H H' : Hp} {v : V} {C : Addr} (h : Ow K H v C) (x : Ex H H') : Ow K H' v C := by
  cases h with
  | exc e ed c => exact .exc (x _ _ e) (x _ _ ed) c
  | excq e ed c => exact .excq (x _ _ e) (x _ _ ed) c
  | ins e c => exact .ins (x _ _ e) c
def Knd.tn : Knd → Option String
  | .non => some "NoneType"
  | .bl => some "bool"
  | .int => some "int"
  | .str => some "str"
  | .lst => some "list"
  | .tup => some "tuple"
  | .dict => some "dict"
  | .oth => none
/-- a value's type -/
inductive Ty (K : PySem.W.Frag) (H : Hp) : V → Value → Prop where
  | b {v : V} {k : Knd} {n : String} (h : Kn K H v k) (hn : n ∈ seven) (e : k.tn = some n) : Ty K H v (.type n)
  | o {v : V} {C : Addr} (h : Ow K H v C) : Ty K H v (.ref C)
section
variable {X : Cx} {pins : List (Addr × Obj)} {σ : L2.St} {H : Hp} {s : Shared}
theorem ty_of {v : V} {u t : Value} (I : Inv X pins σ H s) (rx : RelV v u) (h : Ty X.K H v t) : ∃ (P : Heap → Prop), PySem.W.KitX X.K u t P ∧ P s.heap ∧ u ≠ .builtin "__main__.__loader__#opaque" := by
  have go : ∀ {t : Value}, TyX X.K H v t → ∃ (P : Heap → Prop), PySem.W.KitX X.K u t P ∧ P s.heap ∧ u ≠ .builtin "__main__.__loader__#opaque" := fun ty => kit_of I rx ty
  cases h with
  | b h hn e =>
    cases h with
    | non => cases e; exact go (.base .non)
    | bl c => cases e; exact go (.base (.bl c))
    | int i => cases e; exact go (.base (.int i))
    | str z => cases e; exact go (.base (.str z))
    | lst e2 => cases e; exact go (.base (.lst e2))
    | frz e2 => cases e; exact go (.base (.frz e2))
    | tup e2 => cases e; exact go (.base (.tup e2))
    | dict e2 => cases e; exact go (.base (.dK e2))
    | exc e2 ed c s => cases e
    | excq e2 ed c s => cases e
    | ins e2 c s => cases e
  | o h =>
    cases h with
    | ins e c => exact go (.base (.ins e c.cl c.ha c.hn c.ht c.hm))
    | @exc a d C fs e ed c =>
      cases (show u = Value.ref a from rx)
      obtain ⟨t1, ho⟩ := exo_at I.hok e
      obtain ⟨mA, hns, rel⟩ := exd_at I.hok ed
      obtain ⟨oD, _, _, hoD, _, _⟩ := hns.count (within_of rel)
      exact ⟨_, kitx_X (od := oD) c, ⟨ho, rfl, rfl, hoD⟩, (fun z => nomatch z)⟩
    | @excq a d C t1 fs e ed c =>
      cases (show u = Value.ref a from rx)
      have ho := exq_at I.hok e
      obtain ⟨mA, hns, rel⟩ := exd_at I.hok ed
      obtain ⟨oD, _, _, hoD, _, _⟩ := hns.count (within_of rel)
      exact ⟨_, kitx_X (od := oD) c, ⟨ho, rfl, rfl, hoD⟩, (fun z => nomatch z)⟩
end
/-- isinstance(x, C), C an own class -/
inductive RIsiC (K : PySem.W.Frag) : List V → Hp → VK → Prop
  | ty {x : V} {C : Addr} {t : Value} {b : Bool} {H : Hp} {Q : VK} : Ty K H x t → PySem.W.kitOne K t (.ref C) = some b → Q (.bl b) H → RIsiC K [x, .ref C] H Q
theorem call_isiC {X : Cx} : CallR X (.builtin "isinstance") (RIsiC X.K) := by
  intro pins s σ H xs us Q I r h
  cases h with
  | ty ty e q =>
    obtain ⟨u1, u2, rfl, r1, r2⟩ := vals2 r
    cases (show u2 = Value.ref _ from r2)
    obtain ⟨P, Z, p, hx⟩ := ty_of I r1 ty
    exact PySem.W.kia_one Z I.kIn p e hx fun tk => ⟨.bl _, H, I.tok tk, rfl, q⟩
open PySem.W PySem.Calls in
theorem cmp_ne {prog : Program} {w : World} {A : Around} {E : Value → Shared → Prop} {s : Shared} {K : Frag} {x C f : Addr} {ox od : Obj} {b tb : Value} {Q : Value → Shared → Prop} (hu : A.in1.units < cLine) (X : K.In s.heap) (I : InstAt s.heap x ox C (some od)) (hb : Looks (model prog w) s.heap (typeOf b) tb) (hn : notFirst K C tb = true)
    (hs : findIn K (.ref C) "__ne__" = some (some (.builtin "object.__ne__"))) (hm : mroIn K C (.type "object") = some true) (he : findIn K (.ref C) "__eq__" = some (some (.ref f))) (hf : isFn K (.ref f) = true)
    (h : wpAny (model prog w) A.in1 (call (.ref f) [.ref x, b]) (fun v s' => ∃ c, v = .bool c ∧ Q (.bool (!c)) s') E s) : wpAny (model prog w) A (richCompare .NotEq (.ref x) b) Q E s := by
  have hu0 : A.units < cLine := Nat.lt_of_succ_lt hu
  have body : wpAny (model prog w) A (call (.builtin "object.__ne__") [.ref x, b]) (fun v s' => ∃ c, v = .bool c ∧ Q v s') E s := by
    refine wpAny_call (codeAny_call_builtin (by decide +kernel) PySem.F.cmpEntry_ne (check_slot (i := "object.__ne__") (owner := "object") (n := "__ne__") (by decide +kernel) (by decide +kernel) (I.type.andThen (looks_mroIn X hm)) (PySem.F.cmpArgs_ne _ _) ?_))
    unfold Builtin.«object.__ne__»
    refine wpAny_bind (m := slotArgs "__ne__" 1 _) (wpAny_pure ?_)
    refine wpAny_bind (m := cRoomFor _ _) (wpAny_cRoomFor hu ?_)
    refine wpAny_bind (m := callSpecialIfBound? (.ref x) (Str.ofString "__eq__") _) (ifBound_K X I he hf (wpAny_mono h (fun v s' hv => ?_) fun _ _ z => z))
    obtain ⟨c, rfl, q⟩ := hv
    refine wpAny_bind (m := truthy (.bool c)) (wpAny_truthy_bool ?_)
    exact wpAny_pure ⟨_, rfl, q⟩
  have bound : ∀ {P : Option Value → Shared → Prop}, wpAny (model prog w) A (call (.builtin "object.__ne__") [.ref x, b]) (fun v s' => P (some v) s') E s → wpAny (model prog w) A (callSpecialIfBound? (.ref x) "__ne__" [b]) P E s := fun {P} hP => by
    simp only [callSpecialIfBound?, bindSpecialIfBound?]
    have hbd : bindSpecial (.builtin "object.__ne__") (.ref x) = (pure (.builtin "object.__ne__", [.ref x]) : Sem (Value × List Value)) := by kernel_rfl
    refine wpAny_holding (wpAny_bind (wpAny_bind (wpAny_bind (I.type.here ((looks_findIn X hs).here ?_)))))
    refine wpAny_bind (wpAny_askSetting (wpAny_ite ?_))
    have fin : wpAny (model prog w) A (call (.builtin "object.__ne__") ([.ref x] ++ [b]) >>= fun v => pure (some v)) P E s := wpAny_bind (wpAny_mono hP (fun v s' z => wpAny_pure z) fun _ _ z => z)
    split
    · exact wpAny_bind ((Looks.of_pure hbd).here (wpAny_pure (by exact fin)))
    · exact wpAny_tryCatch (wpAny_bind ((Looks.of_pure hbd).here (wpAny_pure (by exact fin))))
  have one : wpAny (model prog w) A (tryCompare (.ref x) "__ne__" b) (fun r s' => ∃ v, r = some v ∧ Q v s') E s := by
    unfold tryCompare
    refine wpAny_bind (bound (wpAny_mono body (fun v s' hv => ?_) fun _ _ z => z))
    obtain ⟨c, rfl, q⟩ := hv
    exact wpAny_pure ⟨_, rfl, q⟩
  unfold richCompare
  simp only [oneThing_ref]
  refine wpAny_holding (wpAny_bind (wpAny_cRoomFor hu0 ?_))
  refine wpAny_bind (I.type.here (wpAny_bind (hb.here ?_)))
  have fin : wpAny (model prog w) A (tryCompare (.ref x) "__ne__" b) (fun r s' => ∃ v, r = some v ∧ Q v s') E s := one
  split
  · rename_i q
    have e : subIn K tb (.ref C) = some false := by
      rcases Bool.or_eq_true_iff.mp hn with e | e
      · rw [beq_iff_eq.mp e] at q
        simp at q
      · exact beq_iff_eq.mp e
    refine wpAny_bind ((looks_subIn X e).here ?_)
    simp only [Bool.false_eq_true, if_false]
    refine wpAny_bind (wpAny_mono fin (fun r s' z => ?_) fun _ _ z => z)
    obtain ⟨v, rfl, hq⟩ := z
    exact wpAny_pure hq
  · refine wpAny_bind (wpAny_pure ?_)
    simp only [Bool.false_eq_true, if_false]
    refine wpAny_bind (wpAny_mono fin (fun r s' z => ?_) fun _ _ z => z)
    obtain ⟨v, rfl, hq⟩ := z
    exact wpAny_pure hq
/-- what the class tells of its comparing -/
structure EqC (K : PySem.W.Frag) (C f : Addr) : Prop where
  eq : PySem.W.findIn K (.ref C) "__eq__" = some (some (.ref f))
  fn : PySem.W.isFn K (.ref f) = true
  ne : PySem.W.findIn K (.ref C) "__ne__" = some (some (.builtin "object.__ne__"))
  hm : PySem.W.mroIn K C (.type "object") = some true
/-- x == y, x != y: the left one an instance of C, or no own object is near -/
inductive REqO (K : PySem.W.Frag) (C : Addr) (sp : Sp) (neg : Bool) : V → V → Hp → VK → Prop
  | b {x y : V} {H : Hp} {Q : VK} : REq neg x y H Q → REqO K C sp neg x y H Q
  | o {a dx : Addr} {fs : List (Str × V)} {y : V} {t : Value} {H : Hp} {Q : VK} : H a = some (.ins C dx fs) → Ty K H y t → PySem.W.notFirst K C t = true →
      sp [.ref a, y] H (fun v H' => ∃ c, v = .bl c ∧ Q (.bl (if neg then !c else c)) H') (fun _ _ _ => False) → REqO K C sp neg (.ref a) y H Q
section
variable {X : Cx} {k : Nat} {f C : Addr} {sp : Sp} {ps : List Str}
theorem op_eqO (E : EqC X.K C f) (F : FnG X.prog X.w X.K X.mg X.base k f ps sp) (hb : Binds X.K (fdOf X.K f) ps []) (hgu : X.A.guards = some []) (hr : Room (k + 1) X.A) : OpR X (compareOp .Eq) (REqO X.K C sp false) := by
  intro pins s σ H x y v u Q I rx ry h
  cases h with
  | b q => exact op_eqU hr.units pins s σ H _ _ v u Q I rx ry q
  | @o a dx fs _ t _ _ e ty hn q =>
    obtain rfl : v = Value.ref a := rx
    obtain ⟨ox, od, J⟩ := ins_at I e
    obtain ⟨P, Z, p, _⟩ := ty_of I ry ty
    obtain ⟨m, hF⟩ := I.fr
    refine PySem.W.cmp_K (op := .Eq) hr.units0 hF I.ok.mod.kin J (Z.ty _ _ I.kIn p) hn E.eq E.fn ?_
    refine wpAny_mono (run_at F hgu rfl (hr.mono (Nat.le_succ _)) hb I (.cons (show L2.RelV (.ref a) (.ref a) from rfl) (.cons ry .nil)) q) (fun u' s' hu => ?_) fun _ _ z => z
    obtain ⟨w, H', I', rw', c, rfl, q'⟩ := hu
    obtain rfl : u' = Value.bool c := rw'
    exact ⟨.bl c, H', I', rfl, q'⟩
theorem op_neO (E : EqC X.K C f) (F : FnG X.prog X.w X.K X.mg X.base k f ps sp) (hb : Binds X.K (fdOf X.K f) ps []) (hgu : X.A.guards = some []) (hr : Room (k + 1) X.A) : OpR X (compareOp .NotEq) (REqO X.K C sp true) := by
  intro pins s σ H x y v u Q I rx ry h
  cases h with
  | b q => exact op_neU hr.units pins s σ H _ _ v u Q I rx ry q
  | @o a dx fs _ t _ _ e ty hn q =>
    obtain rfl : v = Value.ref a := rx
    obtain ⟨ox, od, J⟩ := ins_at I e
    obtain ⟨P, Z, p, _⟩ := ty_of I ry ty
    show wpAny (model X.prog X.w) X.A (richCompare .NotEq (.ref a) u) (EP X pins σ Q) X.xe s
    refine cmp_ne hr.in1.units0 I.kIn J (Z.ty _ _ I.kIn p) hn E.ne E.hm E.eq E.fn ?_
    refine wpAny_mono (run_at F (by exact hgu) rfl hr.in1 hb I (.cons (show L2.RelV (.ref a) (.ref a) from rfl) (.cons ry .nil)) q) (fun u' s' hu => ?_) fun _ _ z => z
    obtain ⟨w, H', I', rw', c, rfl, q'⟩ := hu
    obtain rfl : u' = Value.bool c := rw'
    exact ⟨c, rfl, ⟨.bl (!c), H', I', rfl, q'⟩⟩
end
end Wk
set_option maxRecDepth 100000
set_option maxHeartbeats 4000000
namespace Wk
open PySem PySem.Spec PyProof.Rows L2
structure PC (K : PySem.W.Frag) (C : Addr) (fl : List Str) : Prop where
  c : Cls K C
  n : ∀ f ∈ fl, NoAttr K C f
def FldP (K : PySem.W.Frag) (f : Str) (x : V) (H : Hp) (Q : VK) : Prop := ∃ a C dx fs v, x = .ref a ∧ H a = some (.ins C dx fs) ∧ Cls K C ∧ NoAttr K C f ∧ fs.lookup f = some v ∧ Q v H
def SFldP (K : PySem.W.Frag) (f : Str) (x y : V) (H : Hp) (N : Hp → Prop) : Prop := ∃ a C dx fs, x = .ref a ∧ H a = some (.ins C dx fs) ∧ Cls K C ∧ NoAttr K C f ∧ fs.length < 1000 ∧ N (upd H a (.ins C dx (putF f y fs)))
def MethP (C : Addr) (m : Str) (x : V) (H : Hp) (N : Prop) : Prop := ∃ a dx fs, x = .ref a ∧ H a = some (.ins C dx fs) ∧ fs.lookup m = none ∧ N
def MakeP (C : Addr) (sp : Sp) (vs : V → List V) (H : Hp) (Q : VK) (E : XK) : Prop := ∀ x dx, H x = none → H dx = none → dx ≠ x → sp (vs (.ref x)) (upd (upd H dx (.own x)) x (.ins C dx [])) (fun v H2 => v = .non ∧ Q (.ref x) H2) E
section
variable {K : PySem.W.Frag} {σ : L2.St} {H D : Hp} {R : Cells} {Q : VK} {ta tv : TE} {t tk : TA} {f m : Str} {C a dx : Addr} {fs : List (Str × V)} {fl : List Str} {x y v : V} {sp : Sp} {dvs : List V} {E : L2.St → XK} {Ds : Ends}
theorem se_fld (h : ta σ H fun x H1 => FldP K f x H1 Q) : tFld K ta f σ H Q := h
theorem st_fld (h : tv σ H fun y H1 => ta σ H1 fun x H2 => SFldP K f x y H2 fun H3 => Ds.nx σ H3) : sFld K ta tv f Ds σ H := h
theorem fld_mk (e : H a = some (.ins C dx fs)) (pc : PC K C fl) (hf : f ∈ fl) (l : fs.lookup f = some v) (q : Q v H) : FldP K f (.ref a) H Q := ⟨a, C, dx, fs, v, rfl, e, pc.c, pc.n f hf, l, q⟩
theorem sfld_now {N : Hp → Prop} (hi : HI H ((a, .ins C dx fs) :: R) D) (pc : PC K C fl) (hf : f ∈ fl) (hl : fs.length < 1000) (k : ∀ H', HI H' ((a, .ins C dx (putF f y fs)) :: R) D → N H') : SFldP K f (.ref a) y H N :=
  ⟨a, C, dx, fs, rfl, hi.get (List.mem_cons_self ..), pc.c, pc.n f hf, hl, k _ hi.set⟩
theorem se_meth (h : ta σ H fun x H1 => MethP C m x H1 (t σ H1 fun vs H2 => sp (x :: (vs ++ dvs)) H2 Q (E σ))) : gMeth C m sp dvs E ta t σ H Q := h
theorem meth_mk {N : Prop} (e : H a = some (.ins C dx fs)) (l : fs.lookup m = none) (h : N) : MethP C m (.ref a) H N := ⟨a, dx, fs, rfl, e, l, h⟩
theorem se_make (h : t σ H fun vs H1 => MakeP C sp (fun x => x :: (vs ++ dvs)) H1 Q (E σ)) : gMake C sp dvs E t σ H Q := h
theorem make_now {vs : V → List V} {E : XK} (hi : HI H R D) (k : ∀ x dx H', HI H' ((x, .ins C dx []) :: (dx, .own x) :: R) D → sp (vs (.ref x)) H' (fun v H2 => v = .non ∧ Q (.ref x) H2) E) : MakeP C sp vs H Q E := fun x dx hx hd ne => by
  have h1 := hi.new (o := .own x) hd
  exact k x dx _ (h1.new (o := .ins C dx []) (by rw [upd_ne ne.symm]; exact hx))
end
/-- the instance stands -/
theorem HI.freezeI {H D : Hp} {R : Cells} {a dx C : Addr} {fs : List (Str × V)} (h : HI H ((a, .ins C dx fs) :: (dx, .own a) :: R) D) : ∃ D', HI H R D' ∧ Ex D D' ∧ D' a = some (.ins C dx fs) := by
  have h1 := h.freeze
  have h2 := h1.freeze
  refine ⟨_, h2, h.freezeX.trans h1.freezeX, ?_⟩
  have ne : a ≠ dx := fun e => by
    have nd := h.nd
    simp only [List.map_cons] at nd
    exact (List.nodup_cons.mp nd).1 (by rw [e]; exact List.mem_cons_self ..)
  rw [upd_ne ne]
  exact upd_same
def gMethN (C : Addr) (m : Str) (n j : Nat) (sp : Sp) (gV : List V → List V → List V) (E : L2.St → XK) (ta : TE) (t tk : TA) : TE := fun σ H Q => ta σ H fun x H1 => MethP C m x H1 (t σ H1 fun vs H2 => tk σ H2 fun zs H3 => vs.length = n ∧ zs.length = j ∧ sp (gV (x :: vs) zs) H3 Q (E σ))
def gMakeN (C : Addr) (n j : Nat) (sp : Sp) (gV : List V → List V → List V) (E : L2.St → XK) (t tk : TA) : TE := fun σ H Q => t σ H fun vs H1 => tk σ H1 fun zs H2 => vs.length = n ∧ zs.length = j ∧ MakeP C sp (fun x => gV (x :: vs) zs) H2 Q (E σ)
section
variable {X : Cx} {k n : Nat} {f C : Addr} {ps ks : List Str} {sp : Sp} {E : L2.St → XK} {x m : Str} {p pos apos : Pos} {e o : Expr} {es : List Expr} {kws : List Keyword} {t tk : TA} {ta : TE} {gV : List V → List V → List V}
theorem ge_methN {pl : Sem Bool} (he : PE X o ta) (c : Cls X.K C) (hm : Meth X.K C m f) (F : FnG X.prog X.w X.K X.mg X.base k f ps sp) (hgu : X.A.guards = some []) (hr : Room k X.A) (hb : KB X.K (fdOf X.K f) ps (n + 1) ks gV) (hx : ∀ σ, PassG X σ (E σ)) (ha : PA X (e :: es) t) (hkw : PK X kws tk)
    (hall : (backToKw pos (keywordEach kws X.env)).all (·.1.isSome) = true := by rfl) (hks : (backToKw pos (keywordEach kws X.env)).filterMap (·.1) = ks := by rfl) (hst : starEach (e :: es) X.env = (false, eval e X.env) :: starEach es X.env := by rfl)
    (hpl : ((backTo pos (starEach (e :: es) X.env)).any (·.1) || (backToKw pos (keywordEach kws X.env)).any (·.1.isNone)) = false := by rfl)
    (ht : eval (.Call (.Attribute o m apos) (e :: es) kws pos) X.env = (do
      let ov ← eval o X.env
      standAt apos.atName
      let (f, first) ← holding [ov] (getMethod ov m pl)
      callWith pos f first (backTo pos (starEach (e :: es) X.env)) (backToKw pos (keywordEach kws X.env))) := by rfl) :
    PE X (.Call (.Attribute o m apos) (e :: es) kws pos) (gMethN C m n ks.length sp gV E ta t tk) := by
  refine ⟨fun pins s σ H Q I h => ?_⟩
  refine PySem.W.methodCall_KW (pl := pl) (thn (he.run pins s σ H _ I h) fun u s1 ⟨x, H1, I1, rx, a, dx, fs, ex, ea, l, q⟩ => ?_) ht
  subst ex
  obtain rfl : u = Value.ref a := rx
  refine getmeth_ok I1 ea c hm l ?_
  refine PySem.W.callWith_KW (first := [.ref a]) (h₀ := X.base) I.ok.mod.kin hm.kp hall (thn (ha.run pos pins s1 σ H1 _ I1 q) fun us s2 ⟨vs, H2, I2, r, q2⟩ => ?_) hpl hst
  refine thn (hkw.run pos pins s2 σ H2 _ I2 q2) fun ws s3 ⟨zs, H3, I3, rz, l1, l2, q3⟩ => ⟨I3.kIn, ?_⟩
  rw [hks]
  exact run_gN (us := Value.ref a :: us) (vs := V.ref a :: vs) F hgu hr hb (hx σ) I3 (.cons (show L2.RelV (.ref a) (.ref a) from rfl) r) rz (congrArg Nat.succ l1) l2 q3
theorem run_mk {pins : List (Addr × Obj)} {σ : L2.St} {H : Hp} {s : Shared} {Q : VK} {us ws : List Value} {vs zs : List V} (M : Mk X.K C f) (F : FnG X.prog X.w X.K X.mg X.base k f ps sp) (hgu : X.A.guards = some []) (hr : Room (k + 1) X.A) (hb : KB X.K (fdOf X.K f) ps (n + 1) ks gV) (hx : PassG X σ (E σ))
    (I : Inv X pins σ H s) (r : Vals vs us) (rz : Vals zs ws) (l1 : vs.length = n) (l2 : zs.length = ks.length) (h : MakeP C sp (fun x => gV (x :: vs) zs) H Q (E σ)) : wpAny (model X.prog X.w) X.A (call (.ref C) us (ks.zip ws)) (EP X pins σ Q) X.xe s := by
  obtain ⟨g, hb⟩ := hb
  exact run_makeG M F hgu hr hx I (fun y => gV (y :: vs) zs) (fun y => g (y :: us) ws) (fun y s' KX => hb.to s' (Value.ref y :: us) ws KX (congrArg Nat.succ (r.length.symm.trans l1)) (rz.length.symm.trans l2)) (fun y => hb.rel (.cons (show L2.RelV (.ref y) (.ref y) from rfl) r) rz) h
/-- C(e, .., k = v, ..) -/
theorem ge_makeN (M : Mk X.K C f) (F : FnG X.prog X.w X.K X.mg X.base k f ps sp) (hgu : X.A.guards = some []) (hr : Room (k + 1) X.A) (hg : Gl X x) (hm : X.mg x = some (.ref C)) (hb : KB X.K (fdOf X.K f) ps (n + 1) ks gV) (hx : ∀ σ, PassG X σ (E σ)) (ha : PA X (e :: es) t) (hkw : PK X kws tk)
    (hdb : (x == ("__debug__" : Str)) = false := by decide) (hall : (backToKw pos (keywordEach kws X.env)).all (·.1.isSome) = true := by rfl) (hks : (backToKw pos (keywordEach kws X.env)).filterMap (·.1) = ks := by rfl)
    (he : starEach (e :: es) X.env = (false, eval e X.env) :: starEach es X.env := by rfl)
    (hpl : ((backTo pos (starEach (e :: es) X.env)).any (·.1) || (backToKw pos (keywordEach kws X.env)).any (·.1.isNone)) = false := by rfl) :
    PE X (.Call (.Name x p) (e :: es) kws pos) (gMakeN C n ks.length sp gV E t tk) := by
  refine ⟨fun pins s σ H Q I h => ?_⟩
  refine wpAny_Call_Name_kw (ld_glob I hg hm ?_ hdb)
  refine PySem.W.callWith_KW (h₀ := X.base) I.ok.mod.kin M.kp hall (thn (ha.run pos pins s σ H _ I h) fun us s1 ⟨vs, H1, I1, r, q⟩ => ?_) hpl he
  refine thn (hkw.run pos pins s1 σ H1 _ I1 q) fun ws s2 ⟨zs, H2, I2, rz, l1, l2, q2⟩ => ⟨I2.kIn, ?_⟩
  rw [hks]
  exact run_mk M F hgu hr hb (hx σ) I2 r rz l1 l2 q2
theorem se_methN {σ : L2.St} {H : Hp} {Q : VK} {j : Nat} (h : ta σ H fun x H1 => MethP C m x H1 (t σ H1 fun vs H2 => tk σ H2 fun zs H3 => vs.length = n ∧ zs.length = j ∧ sp (gV (x :: vs) zs) H3 Q (E σ))) : gMethN C m n j sp gV E ta t tk σ H Q := h
theorem se_makeN {σ : L2.St} {H : Hp} {Q : VK} {j : Nat} (h : t σ H fun vs H1 => tk σ H1 fun zs H2 => vs.length = n ∧ zs.length = j ∧ MakeP C sp (fun x => gV (x :: vs) zs) H2 Q (E σ)) : gMakeN C n j sp gV E t tk σ H Q := h
end
def insB (n : Str) (K : PySem.W.Frag) : Bool := He.eqO (PySem.W.findIn K (.ref (He.ga K n)) "__class__") (some (some (.builtin "object.__class__"))) && (He.eqO (PySem.W.specialIn K (.builtin "object.__class__") "__get__") (some (some (.builtin "getset_descriptor.__get__"))) && (eqB (PySem.W.takesIn K (.builtin "object.__class__")) (some true) && eqB (PySem.W.mroIn K (He.ga K n) (.type "object")) (some true)))
theorem ins_ok {K : PySem.W.Frag} {n : Str} (c : Cls K (He.ga K n)) (h : insB n K = true) : InsC K (He.ga K n) := by
  obtain ⟨a, h⟩ := He.ba h
  obtain ⟨b, h⟩ := He.ba h
  obtain ⟨d, e⟩ := He.ba h
  exact ⟨c, He.eqO_ok a, He.eqO_ok b, of_decide_eq_true d, of_decide_eq_true e⟩
def pcB (n : Str) (fl : List Str) (K : PySem.W.Frag) : Bool := fl.all fun f => (He.Fa.noat n f).ok K
theorem pc_ok {K : PySem.W.Frag} {n : Str} {fl : List Str} (c : Cls K (He.ga K n)) (h : pcB n fl K = true) : PC K (He.ga K n) fl := ⟨c, fun f hf => He.noat_ok (List.all_eq_true.mp h f hf)⟩
def neB (n : Str) (K : PySem.W.Frag) : Bool := He.eqO (PySem.W.findIn K (.ref (He.ga K n)) "__ne__") (some (some (.builtin "object.__ne__")))
theorem eqc_ok {K : PySem.W.Frag} {n : Str} {f : Addr} (i : InsC K (He.ga K n)) (m : Meth K (He.ga K n) "__eq__" f) (h : neB n K = true) : EqC K (He.ga K n) f := ⟨m.at_, m.fn, He.eqO_ok h, i.hm⟩
def nfB (n : Str) (K : PySem.W.Frag) : Bool := seven.all fun t => PySem.W.notFirst K (He.ga K n) (.type t)
def nfC (n x : Str) (K : PySem.W.Frag) : Bool := PySem.W.notFirst K (He.ga K n) (.ref (He.ga K x))
/-- no kit type stands above the class -/
def sbB (n : Str) (K : PySem.W.Frag) : Bool := seven.all fun t => eqB (PySem.W.subIn K (.ref (He.ga K n)) (.type t)) (some false)
def kbB (n : Str) (K : PySem.W.Frag) : Bool := seven.all fun t => eqB (PySem.W.kitOne K (.type t) (.ref (He.ga K n))) (some false)
def kiB (x n : Str) (b : Bool) (K : PySem.W.Frag) : Bool := eqB (PySem.W.kitOne K (.ref (He.ga K x)) (.ref (He.ga K n))) (some b)
inductive RFmt : V → Hp → VK → Prop
  | str {z : Str} {H : Hp} {Q : VK} : z.length ≤ 1000000 → Q (.str z) H → RFmt (.str z) H Q
  | int {i : Int} {H : Hp} {Q : VK} : i.natAbs.log2 < 1920 → Q (.str (toString i)) H → RFmt (.int i) H Q
def tFmtU (te : TE) : TE := fun σ H Q => te σ H fun x H1 => RFmt x H1 Q
theorem sj_nil {σ : L2.St} {H : Hp} {acc : Str} {Q : Str → Hp → Prop} (h : Q acc H) : tJs [] acc σ H Q := h
theorem sj_cons {σ : L2.St} {H : Hp} {acc : Str} {t : TE} {ts : List TE} {Q : Str → Hp → Prop} (h : t σ H fun x H1 => ∃ y : Str, x = .str y ∧ (acc ++ y).length ≤ sizeLine ∧ tJs ts (acc ++ y) σ H1 Q) : tJs (t :: ts) acc σ H Q := h
theorem js_mk {acc z : Str} {P : Str → Prop} (hl : acc.length + z.length ≤ 1000000) (q : P z) : ∃ y : Str, V.str z = .str y ∧ (acc ++ y).length ≤ sizeLine ∧ P y := ⟨z, rfl, small_ok (by rw [len_app]; exact hl), q⟩
theorem se_fmt {te : TE} {σ : L2.St} {H : Hp} {Q : VK} (h : te σ H fun x H1 => RFmt x H1 Q) : tFmtU te σ H Q := h
end Wk
set_option maxRecDepth 100000
set_option maxHeartbeats 4000000
namespace Wk
open PySem PySem.Spec PyProof.Rows L2
def tTryA (tb : WX → TS) (w : Ends → WX) : TS := fun D σ H => tb (w D) D σ H
section
variable {K : PySem.W.Frag} {σ : L2.St} {H : Hp} {Q : VK} {D : Ends} {tb : WX → TS} {w : Ends → WX} {cls : Value} {d : Option Addr} {c : Value} {i : Nat} {ts : Addr → Value → Option Addr → TS} {Wr : WX}
theorem st_try (h : tb (w D) D σ H) : tTryA tb w D σ H := h
end
def ByP (K : PySem.W.Frag) (f : Str) (a : Addr) (cls : Value) (d : Option Addr) (x : V) (H : Hp) (Q : VK) : Prop := x = .ref a ∧ ∃ (C dd : Addr) (v : V), cls = .ref C ∧ ExcC K C ∧ PySem.W.findIn K (.ref C) f = some none ∧ d = some dd ∧ H dd = some (.xd [(f, v)]) ∧ Q v H
def tByX (K : PySem.W.Frag) (f : Str) (a : Addr) (cls : Value) (d : Option Addr) (te : TE) : TE := fun σ H Q => te σ H fun x H1 => ByP K f a cls d x H1 Q
section
variable {K : PySem.W.Frag} {σ : L2.St} {H : Hp} {Q : VK} {te : TE} {f : Str} {a : Addr} {cls : Value} {d : Option Addr}
theorem se_by (h : te σ H fun x H1 => ByP K f a cls d x H1 Q) : tByX K f a cls d te σ H Q := h
end
end Wk
set_option maxRecDepth 100000
set_option maxHeartbeats 4000000
namespace Wk
open PySem PySem.Spec PyProof.Rows L2
section
variable {K : PySem.W.Frag} {σ : L2.St} {H : Hp} {ta tl : TA} {te : TE} {R : It → Hp → Prop} {a b : Addr} {xs ys : List V}
theorem it_zip (h : ta σ H fun vs H1 => ∃ a b xs ys, vs = [.ref a, .ref b] ∧ SqL K H1 a xs ∧ SqL K H1 b ys ∧ R (Itz K a b) H1) : iZip K ta σ H R := h
theorem zip_mk {P : Addr → Addr → Prop} (h1 : H a = some (.lst xs)) (h2 : H b = some (.lst ys)) (q : P a b) : ∃ a' b' xs ys, [V.ref a, V.ref b] = [.ref a', .ref b'] ∧ SqL K H a' xs ∧ SqL K H b' ys ∧ P a' b' := ⟨a, b, xs, ys, rfl, SqL.of h1, SqL.of h2, q⟩
theorem it_enum (h : ta σ H fun vs H1 => ∃ a xs, vs = [.ref a] ∧ SqL K H1 a xs ∧ R (Ite K a) H1) : iEnum K ta σ H R := h
theorem enum_mk {P : Addr → Prop} (h1 : H a = some (.lst xs)) (q : P a) : ∃ a' xs, [V.ref a] = [.ref a'] ∧ SqL K H a' xs ∧ P a' := ⟨a, xs, rfl, SqL.of h1, q⟩
theorem rne_same {z : Str} {Q : VK} (q : Q (.bl false) H) : REq true (.str z) (.str z) H Q := rne_str (by rw [decide_eq_true rfl]; exact q)
theorem req_same {z : Str} {Q : VK} (q : Q (.bl true) H) : REq false (.str z) (.str z) H Q := req_str (by rw [decide_eq_true rfl]; exact q)
theorem it_tup (h : te σ H fun x H1 => ∃ a, x = .ref a ∧ (∃ xs, SqT K H1 a xs) ∧ R (Itt K a) H1) : iTup K te σ H R := h
theorem tupI_mk {P : Addr → Prop} (h : H a = some (.tup xs)) (q : P a) : ∃ b, V.ref a = .ref b ∧ (∃ xs, SqT K H b xs) ∧ P b := ⟨a, rfl, ⟨xs, SqT.of h⟩, q⟩
def tagV : V → Nat
  | .non => 0
  | .bl false => 1
  | .bl true => 2
  | .int _ => 3
  | .str _ => 4
  | .byt _ => 5
  | .flt _ => 6
  | .ref _ => 7
  | .ty _ => 8
theorem if_tagF {x y : V} {A B : Prop} (e : (tagV x == tagV y) = false) (h : B) : if decide (x = y) = true then A else B := by
  rw [if_neg (by
    intro q
    rw [of_decide_eq_true q] at e
    simp at e)]
  exact h
theorem if_tagN {x y : V} {A B : Prop} (e : (tagV x == tagV y) = false) (h : A) : if (!decide (x = y)) = true then A else B := by
  have : decide (x = y) = false := decide_eq_false fun q => by
    rw [q] at e
    simp at e
  rw [this]
  exact h
theorem if_kT {k : Knd} {n : String} {A B : Prop} (e : k.is n = true) (h : A) : if k.is n = true then A else B := by rw [if_pos e]; exact h
theorem if_kF {k : Knd} {n : String} {A B : Prop} (e : k.is n = false) (h : B) : if k.is n = true then A else B := by rw [if_neg (by rw [e]; decide)]; exact h
theorem if_nkT {k : Knd} {n : String} {A B : Prop} (e : k.is n = true) (h : B) : if (!k.is n) = true then A else B := by rw [e]; exact h
theorem if_nkF {k : Knd} {n : String} {A B : Prop} (e : k.is n = false) (h : A) : if (!k.is n) = true then A else B := by rw [e]; exact h
theorem if_notT {A B : Prop} (h : B) : if (!true) = true then A else B := h
theorem if_notF {A B : Prop} (h : A) : if (!false) = true then A else B := h
end
section
variable {J : It} {n : Nat} {G : Hp → Prop} {Y : Nat → Hp → V → Hp → Prop} {g : TG} {tb : TS} {D : Ends} {σ : L2.St} {H D0 : Hp} {R0 : Cells} {tt : TT} {te : TE} {vs : List Nat} {Q : VK} {K : PySem.W.Frag} {a b : Addr} {xs ys : List V}
theorem for_enum (I : Nat → L2.St → Cells → Hp → Prop) (hi : HI H R0 D0) (h0 : I 0 σ R0 D0) (hl : ∀ i σ R Dd, I i σ R Dd → Dd a = some (.lst xs))
    (hs : ∀ (i : Nat) x T σ R Dd Dd' H, xs[i]? = some x → HI H R Dd' → Ex Dd Dd' → Dd' T = some (.tup [.int i, x]) → I i σ R Dd → g (.ref T) σ H fun σ2 H2 => tb { D with nx := NX I (i + 1), ct := NX I (i + 1), bk := D.nx } σ2 H2)
    (hd : ∀ σ R Dd H, HI H R Dd → I xs.length σ R Dd → D.nx σ H) : ForK (Ite K a) g tb D σ H :=
  for_hi walk_enum I hi h0 (fun i σ R Dd H _ q p => SqL.of (q.dat (hl i σ R Dd p))) (fun i v σ R Dd H H' hn1 hi1 b y => by
    obtain ⟨T, x, z, rfl, hT, rfl, e1, e2⟩ := y
    cases e1
    exact hs i z T σ R Dd _ _ e2 (hi1.newD hT) (Ex.new (hi1.free hT)) upd_same b) hd
theorem lc_tup (I : Nat → List V → Cells → Hp → Prop) (hi : HI H R0 D0) (h0 : I 0 [] R0 D0) (hl : ∀ i acc R Dd, I i acc R Dd → Dd a = some (.tup xs))
    (hs : ∀ L i acc x R Dd H, xs[i]? = some x → HI H ((L, .lst acc) :: R) Dd → I i acc R Dd → acc.length ≤ i → g x (wipe σ vs) H fun σ2 H2 => wipe σ2 vs = wipe σ vs ∧ tt σ2 H2 fun b H3 => if b = true then te σ2 H3 (LE L I (i + 1)) else PW' L I (i + 1) H3)
    (hd : ∀ L acc R Dd H, HI H ((L, .lst acc) :: R) Dd → I xs.length acc R Dd → acc.length ≤ xs.length → Q (.ref L) H) : LcK (Itt K a) g tt te vs σ H Q :=
  lc_hi walk_tup I hi h0 (fun i acc R Dd H _ q p => SqT.of (q.dat (hl i acc R Dd p))) (fun L i acc x R Dd H H' hn a b c y => by
    obtain ⟨rfl, y⟩ := y
    exact hs L i acc x R Dd H' y a b c) hd
end
theorem HI.sublist {H D : Hp} {R R' : Cells} (h : HI H R D) (s : R'.Sublist R) : HI H R' D := ⟨(s.map _).nodup h.nd, fun p hp => h.cell p (s.subset hp), h.sub⟩
theorem HI.fr1 {H D : Hp} {R : Cells} {a : Addr} {o : HO} (h : HI H ((a, o) :: R) D) : ∃ D', HI H R D' ∧ Ex D D' ∧ D' a = some o := ⟨_, h.freeze, h.freezeX, upd_same⟩
end Wk
set_option maxRecDepth 100000
set_option maxHeartbeats 4000000
namespace Wk
open PySem PySem.Spec PyProof.Rows L2
/-- the class's name as repr shows it -/
def exHd (K : PySem.W.Frag) (C : Addr) : Str := match K.lookup C with
  | some ⟨_, _, .cls cd, _⟩ => excReprHead cd.name.toString
  | _ => ""
/-- what the written part says of the class, so that repr may show its instances -/
structure ExQ (K : PySem.W.Frag) (C : Addr) : Prop where
  o : OexC K C
  hr : PySem.W.findIn K (.ref C) "__repr__" = some (some (.builtin "BaseException.__repr__"))
  hl : (exHd K C).length ≤ 100
section
variable {prog : Program} {w : World} {A : Around} {E : Value → Shared → Prop} {s : Shared} {K : PySem.W.Frag} {C e t1 : Addr} {ox : Obj} {od : Option Obj} {m : Str} {tk : Tok}
open PySem.W PySem.Calls Builtin Builtin.BaseException Builtin.Exceptions
theorem csibBy {M : Model} {last : Value → List Value → Sem Value} {self : Value} {name : PySem.Str} {id : String} {Q : Option Value → Shared → Prop} (sp : Looks M s.heap (specialOf self name) (some (.builtin id))) (hb : bindSpecial (.builtin id) self = pure (.builtin id, [self]))
    (hc : wpAny M A (last (.builtin id) [self]) (fun v => Q (some v)) E s) : wpAny M A (callSpecialIfBoundBy? last self name) Q E s := by
  simp only [callSpecialIfBoundBy?, bindSpecialIfBound?]
  refine wpAny_holding (wpAny_bind (wpAny_bind (sp.here ?_)))
  refine wpAny_bind (wpAny_askSetting (wpAny_ite ?_))
  have fin : wpAny M A (last (.builtin id) [self] >>= fun v => pure (some v)) Q E s := wpAny_bind (wpAny_mono hc (fun v s' h' => wpAny_pure h') fun _ _ h' => h')
  split
  · exact wpAny_bind (wpAny_of_eq hb (wpAny_pure (by exact fin)))
  · exact wpAny_tryCatch (wpAny_bind (wpAny_of_eq hb (wpAny_pure (by exact fin))))
/-- an exception of the class at C, its args one text -/
structure XAt (K : PySem.W.Frag) (C : Addr) (h : Heap) (e : Addr) (m : Str) (tk : Tok) : Prop where
  q : ExQ K C
  k : K.In h
  i : ∃ t1 d, h.get? e = some ({ cls := .ref C, dict := d, data := .fields #[.ref t1, .none, .none, .none, .bool false, .none] } : Obj) ∧ h.TupAt t1 [.str m tk]
theorem XAt.keeps {h h' : Heap} (x : XAt K C h e m tk) (k : ∀ b o, h.get? b = some o → h'.get? b = some o) : XAt K C h' e m tk := by
  obtain ⟨q, X, t1, d, e1, e2⟩ := x
  exact ⟨q, X.keeps k, t1, d, k _ _ e1, e2.keeps k⟩
theorem XAt.type {M : Model} {h : Heap} (x : XAt K C h e m tk) : Looks M h (typeOf (.ref e)) (.ref C) := by
  obtain ⟨q, X, t1, d, e1, e2⟩ := x
  exact (Looks.ld e1).andThen .now
theorem XAt.sub {M : Model} {h : Heap} (x : XAt K C h e m tk) : Looks M h (isInstance (.ref e) (.type "BaseException")) true := x.type.andThen (looks_subIn x.k x.q.o.exC)
theorem bexc_bind (self : Value) : bindSpecial (.builtin "BaseException.__repr__") self = pure (.builtin "BaseException.__repr__", [self]) := by
  rfl
theorem XAt.hd {h : Heap} (x : XAt K C h e m tk) : ∃ cd, PySem.W.clsIn K C = some cd ∧ exHd K C = excReprHead cd.name.toString := by
  obtain ⟨q, X, t1, d, e1, ot, n, e2, e3, e4⟩ := id x
  obtain ⟨nm, qq, N, bs, bm, sn, sub, ab, col, dd, k0, k1, k2, k3, k5, hC, hbm⟩ := q.o.cls
  refine ⟨{ name := nm, bases := bs, mro := .ref C :: bm, ns := N, qualname := qq, hasDict := true, slotNames := sn, subclasses := sub, abstract := ab, collection := col, hasDel := false }, by unfold PySem.W.clsIn; rw [hC] <;> rfl, ?_⟩
  unfold exHd
  rw [hC]
theorem xat_name {M : Model} {Q : String → Shared → Prop} {cd : ClassData} (x : XAt K C s.heap e m tk) (hc : PySem.W.clsIn K C = some cd) (hq : Q cd.name.toString s) : wpAny M A (typeNameOfWhole (.ref e)) Q E s := by
  unfold typeNameOfWhole shownTypeOf
  refine wpAny_bind (wpAny_bind (x.type.here ?_))
  have ne : (Value.ref C == Value.type "builtin_function_or_method") = false := rfl
  simp only [ne, Bool.false_eq_true, if_false]
  refine wpAny_pure ?_
  unfold typeNameWhole
  refine wpAny_bind ((looks_clsIn x.k hc).here ?_)
  exact wpAny_pure hq
theorem xat_args {M : Model} {Q : Value × List Value → Shared → Prop} (x : XAt K C s.heap e m tk) (hq : ∀ t1, Q (.ref t1, [.str m tk]) s) : wpAny M A (bexcArgs (.ref e)) Q E s := by
  obtain ⟨q, X, t1, d, e1, ot, n, e2, e3, e4⟩ := id x
  unfold bexcArgs
  refine wpAny_bind (wpAny_field e1 rfl (x := .ref t1) rfl (wpAny_bind (wpAny_seqItems e2 e4 ?_)))
  exact wpAny_pure (hq t1)
theorem xat_body (b : Nat) {Q : Fin → Shared → Prop} (x : XAt K C s.heap e m tk)
    (hq : Q (.done (.ret (.str (exHd K C ++ "(" ++ reprText m ++ ")") (s.toks + 1)))) { s with toks := s.toks + 1 + 1 }) (hsz : b + (exHd K C ++ "(" ++ reprText m ++ ")").length ≤ sizeLine) :
    wpAny (model prog w) A (Builtin.bexcReprAt b ⟨[.ref e], []⟩) Q E s := by
  obtain ⟨cd, hc, hd⟩ := x.hd
  rw [hd] at hq hsz
  have e1 : b + (Str.ofString ((cd.name.toString.cutAt '.').getLastD "") ++ Str.ofString "(" ++ reprText m ++ Str.ofString ")").length ≤ sizeLine := hsz
  have hsz2 : (Str.ofString ((cd.name.toString.cutAt '.').getLastD "") ++ Str.ofString "(" ++ reprText m ++ Str.ofString ")").length ≤ sizeLine := Nat.le_trans (Nat.le_add_left _ b) e1
  have eP : (Str.ofString "(").length = 1 := by rw [PySem.ofString_length]; rfl
  rw [strLen_append, strLen_append, strLen_append, eP] at e1
  have hsz1 : (reprText m).length ≤ sizeLine := by omega
  have hpile : b + ((Str.ofString ((cd.name.toString.cutAt '.').getLastD "")).length + 1) ≤ sizeLine := by omega
  unfold Builtin.bexcReprAt
  repeat (first | with_reducible refine xat_name x hc ?_ | (with_reducible refine xat_args x ?_; intro t1) | rw [pyReprUnder_leaf (v := .str m tk) hpile (by intro a; nofun)] | with_reducible refine wpAny_pyRepr_str ?_ | wp_step)
  exact hq
theorem xat_under {b : Nat} {Q : Str → Shared → Prop} (hu : A.units < cLine) (x : XAt K C s.heap e m tk)
    (hq : Q (exHd K C ++ "(" ++ reprText m ++ ")") { s with toks := s.toks + 1 + 1 }) (hsz : b + (exHd K C ++ "(" ++ reprText m ++ ")").length ≤ sizeLine) : wpAny (model prog w) A (pyReprUnder b (.ref e)) Q E s := by
  refine wpAny_pyReprUnder_ref (by omega) ?_
  unfold pyReprObjUnder pyReprObjBy
  refine wpAny_bind (wpAny_cRoomFor hu ?_)
  have sp : ∀ M : Model, Looks M s.heap (specialOf (.ref e) "__repr__") (some (.builtin "BaseException.__repr__")) := fun M => x.type.andThen (looks_findIn x.k x.q.hr)
  refine wpAny_bind ((sp _).here ?_)
  refine wpAny_bind (csibBy (sp _) (bexc_bind _) ?_)
  show wpAny _ _ (call (.builtin "BaseException.__repr__.under") [.ref e, rawInt b]) _ _ _
  refine wpAny_call (codeAny_call_builtin F.plain_bexc_repr_under F.entry_bexc_repr_under ?_)
  rw [F.check_bexc_repr_under]
  refine wpAny_pure ?_
  show wpAny _ _ (reprTwin "BaseException.__repr__" bexcReprAt ⟨[.ref e, rawInt b], []⟩) _ _ _
  rw [reprTwin_eq]
  refine wpAny_bind (@check_slot (model prog w) _ _ s "BaseException.__repr__" "BaseException" "__repr__" (.ref e) [] [] _ (by decide +kernel) (by decide +kernel) x.sub (F.args_bexc_repr _) ?_)
  refine xat_body b x ?_ hsz
  refine wpAny_bind (wpAny_isInstance (T := "str") (b := true) rfl isSubtype_str_str ?_)
  exact wpAny_pure ⟨_, _, rfl, hq⟩
end
end Wk
set_option maxRecDepth 100000
set_option maxHeartbeats 4000000
namespace Wk
open PySem PySem.Spec PyProof.Rows L2 PySem.NumText
def oV : Option Int → V
  | none => .non
  | some i => .int i
theorem sIx_le' (n d : Nat) (k : Nat) : HT.sIx n d (some (k : Int)) = min k n := HT.sIx_nat n d k
/-- a leading minus -/
def neg (l : List Nat) : Bool := decide (l.head? = some 45)
instance : DecidablePred AllDigits := fun l => inferInstanceAs (Decidable (∀ c ∈ l, 48 ≤ c ∧ c ≤ 57))
end Wk
set_option maxRecDepth 100000
set_option maxHeartbeats 4000000
namespace Wk
open PySem PySem.Spec PyProof.Rows L2
def LP (P : Nat → Prop) (z : Str) : Prop := ∀ c ∈ z.cps.toList, P c
section
variable {P : Nat → Prop}
theorem LP.app {a b : Str} (h : LP P a) (k : LP P b) : LP P (a ++ b) := fun c hc => by
  rw [tl_app] at hc
  rcases List.mem_append.mp hc with h1 | h1
  · exact h c h1
  · exact k c h1
theorem LP.cut {z : Str} (h : LP P z) (lo hi : Option Int) : LP P (cutS z lo hi) := fun c hc => by
  unfold cutS at hc
  simp only at hc
  exact h c (List.mem_of_mem_drop (List.mem_of_mem_take (by simpa using hc)))
theorem LP.one {z : Str} {c : Nat} (h : LP P z) (m : c ∈ z.cps.toList) : LP P ⟨#[c]⟩ := fun d hd => by
  simp at hd
  rw [hd]
  exact h c m
def OnesP (P : Nat → Prop) (ys : List Str) : Prop := ∀ y ∈ ys, y.length = 1 ∧ LP P y
theorem OnesP.sum : ∀ {ys : List Str}, OnesP P ys → (ys.map (·.length)).sum = ys.length
  | [], _ => rfl
  | y :: ys, h => by
    have ih := OnesP.sum (ys := ys) fun z hz => h z (List.mem_cons_of_mem _ hz)
    have e := (h y (List.mem_cons_self ..)).1
    simp only [List.map_cons, List.sum_cons, List.length_cons, ih, e]
    omega
theorem OnesP.nil : OnesP P [] := fun y hy => by cases hy
theorem OnesP.snoc {ys : List Str} {z : Str} {c : Nat} (h : OnesP P ys) (hz : LP P z) (m : c ∈ z.cps.toList) : OnesP P (ys ++ [⟨#[c]⟩]) := fun y hy => by
  rcases List.mem_append.mp hy with h1 | h1
  · exact h y h1
  · rw [List.mem_singleton.mp h1]
    exact ⟨rfl, hz.one m⟩
end
inductive RListO : List V → Hp → VK → Prop
  | l {p : Addr} {xs : List V} {H : Hp} {Q : VK} : H p = some (.lst xs) → AlD (.lst xs) H Q → RListO [.ref p] H Q
  | t {p : Addr} {xs : List V} {H : Hp} {Q : VK} : H p = some (.tup xs) → AlD (.lst xs) H Q → RListO [.ref p] H Q
theorem call_listU {X : Cx} : CallR X (.type "list") RListO := by
  intro pins s σ H xs us Q I r h
  cases h with
  | l e q => exact call_list_of pins s σ H _ us Q I r ⟨_, _, rfl, .inl (SqL.of e), q⟩
  | t e q => exact call_list_of pins s σ H _ us Q I r ⟨_, _, rfl, .inr (SqT.of e), q⟩
inductive RTupO : List V → Hp → VK → Prop
  | l {p : Addr} {xs : List V} {H : Hp} {Q : VK} : H p = some (.lst xs) → AlD (.tup xs) H Q → RTupO [.ref p] H Q
section
variable {K : PySem.W.Frag} {σ : L2.St} {H D : Hp} {R : Cells} {Q : VK} {p : Addr} {xs : List V} {v : V} {to : TE} {t : TA} {r : V → List V → Hp → VK → Prop} {T : String}
theorem se_bm (h : to σ H fun x H1 => tyV K T x H1 ∧ t σ H1 fun xs H2 => r x xs H2 Q) : tBM K T r to t σ H Q := h
theorem se_bm0 (h : to σ H fun x H1 => tyV K T x H1 ∧ r x [] H1 Q) : tBM0 K T r to σ H Q := h
theorem bm_ty {A : Prop} (e : H p = some (.lst xs)) (h : A) : tyV K "list" (.ref p) H ∧ A := ⟨.inl ⟨rfl, xs, SqL.of e⟩, h⟩
theorem app_now (hi : HI H ((p, .lst xs) :: R) D) (hl : xs.length < 1000000) (k : ∀ H', HI H' ((p, .lst (xs ++ [v])) :: R) D → Q .non H') : rAppend (.ref p) [v] H Q :=
  ⟨p, xs, v, rfl, rfl, hi.get (List.mem_cons_self ..), by rw [sizeLine_eq]; omega, k _ hi.set⟩
end
theorem call_tupU {X : Cx} : CallR X (.type "tuple") RTupO := by
  intro pins s σ H xs us Q I r h
  cases h with
  | l e q => exact call_tuple_of pins s σ H _ us Q I r ⟨_, _, rfl, .inl ⟨SqL.of e, q⟩⟩
theorem pop_now {H D : Hp} {R : Cells} {Q : VK} {p : Addr} {xs : List V} {i : Int} (hi : HI H ((p, .lst xs) :: R) D) (h0 : 0 ≤ i) (h1 : i < xs.length) (h2 : xs.length ≤ 1000000) (k : ∀ y H', xs[i.toNat]? = some y → HI H' ((p, .lst (xs.eraseIdx i.toNat)) :: R) D → Q y H') : rPopAt (.ref p) [.int i] H Q := by
  have e1 : ixN xs.length i = some i.toNat := by
    unfold ixN
    rw [if_pos h0, if_pos h1]
  have hn : i.toNat < xs.length := by omega
  exact ⟨p, xs, i, i.toNat, xs[i.toNat], rfl, rfl, hi.get (List.mem_cons_self ..), by omega, by omega, (ixN_seq e1).1, List.getElem?_eq_getElem hn, k _ _ (List.getElem?_eq_getElem hn) hi.set⟩
def NW (I : Nat → L2.St → Cells → Hp → Prop) (m : Nat) : L2.St → Hp → Prop := fun σ' H' => ∃ m' R' D', m' < m ∧ HI H' R' D' ∧ I m' σ' R' D'
theorem while_hi {c : TT} {tb : TS} {Ds : Ends} {σ : L2.St} {H D0 : Hp} {R0 : Cells} {m : Nat} (I : Nat → L2.St → Cells → Hp → Prop) (hi : HI H R0 D0) (h0 : I m σ R0 D0)
    (hs : ∀ m σ R Dd H, HI H R Dd → I m σ R Dd → c σ H fun b H1 => if b = true then (∃ N : L2.St → Hp → Prop, (∀ σ' H', N σ' H' → ∃ m', m' < m ∧ ∃ R D, HI H' R D ∧ I m' σ' R D) ∧ tb { Ds with nx := N, ct := N, bk := Ds.nx } σ H1) else Ds.nx σ H1) : tWhile c tb Ds σ H :=
  ⟨fun m σ H => ∃ R D, HI H R D ∧ I m σ R D, ⟨m, R0, D0, hi, h0⟩, fun m σ H ⟨R, D, a, b⟩ => hs m σ R D H a b⟩
theorem ints_rep {H : Hp} : ∀ ks : List Int, RepL H (ks.map V.int) (ks.map PyData.int)
  | [] => .nil
  | k :: ks => .cons (.int k) (ints_rep ks)
inductive RListM : List V → Hp → VK → Prop
  | l {p : Addr} {xs : List V} {H : Hp} {Q : VK} : H p = some (.lst xs) → AlM (.lst xs) H Q → RListM [.ref p] H Q
theorem call_listUM {X : Cx} : CallR X (.type "list") RListM := by
  intro pins s σ H xs us Q I r h
  cases h with
  | l e q => exact call_list_of pins s σ H _ us Q I r ⟨_, _, rfl, .inl (SqL.of e), q⟩
end Wk
set_option maxRecDepth 100000
set_option maxHeartbeats 4000000
namespace Wk
open PySem PySem.Spec PyProof.Rows L2
theorem join_len (sep : Str) : ∀ ys : List Str, (Str.join sep ys).length ≤ (ys.map (·.length)).sum + ys.length * sep.length
  | [] => Nat.zero_le _
  | [y] => by
    show y.length ≤ _
    simp
  | x :: y :: r => by
    have ih := join_len sep (y :: r)
    show (x ++ sep ++ Str.join sep (y :: r)).length ≤ _
    rw [len_app, len_app]
    simp only [List.map_cons, List.sum_cons, List.length_cons, Nat.add_mul, Nat.one_mul] at ih ⊢
    omega
theorem repr_len {z : Str} (h : Sg z) : (reprText z).length ≤ 10 * z.length + 2 := PySem.StrLaws.reprText_len z fun c hc => by
  have := h c hc
  omega
end Wk
set_option maxRecDepth 100000
set_option maxHeartbeats 4000000
namespace Wk
open PySem PySem.Spec PyProof.Rows L2
structure Sm (d : PyData) (n k : Nat) : Prop where
  s : d.showable = true
  l : d.shown.length ≤ n
  d : d.depth ≤ k
theorem Sm.mono {d : PyData} {n k n' k' : Nat} (h : Sm d n k) (a : n ≤ n') (b : k ≤ k') : Sm d n' k' := ⟨h.s, Nat.le_trans h.l a, Nat.le_trans h.d b⟩
theorem Sm.non : Sm .none 4 0 := ⟨rfl, by decide +kernel, Nat.le_refl _⟩
theorem Sm.bl (b : Bool) : Sm (.bool b) 5 0 := by cases b <;> exact ⟨rfl, by decide +kernel, Nat.le_refl _⟩
theorem Sm.int {i : Int} (h : i.natAbs < 10 ^ 30) : Sm (.int i) 31 0 := ⟨decide_eq_true (log2_small (by omega)), (tst h).1, Nat.le_refl _⟩
theorem Sm.str {z : Str} (h : Sg z) : Sm (.str z) (10 * z.length + 2) 0 := ⟨by simp [PyData.showable], repr_len h, by simp [PyData.depth]⟩
theorem sm_all {n k : Nat} : ∀ {ds : List PyData}, (∀ d ∈ ds, Sm d n k) → PyData.showableAll ds = true ∧ (((PyData.shownAll ds).map (·.length)).sum ≤ n * ds.length ∧ (PyData.shownAll ds).length = ds.length) ∧ PyData.depthAll ds ≤ k
  | [], _ => ⟨rfl, ⟨Nat.zero_le _, rfl⟩, Nat.zero_le _⟩
  | d :: ds, h => by
    obtain ⟨a, ⟨b, c⟩, e⟩ := sm_all (ds := ds) fun x hx => h x (List.mem_cons_of_mem _ hx)
    obtain ⟨a1, b1, e1⟩ := h d (List.mem_cons_self ..)
    refine ⟨?_, ⟨?_, ?_⟩, ?_⟩
    · simp only [PyData.showableAll, a1, a, Bool.and_self]
    · simp only [PyData.shownAll, List.map_cons, List.sum_cons, List.length_cons, Nat.mul_succ]
      omega
    · simp only [PyData.shownAll, List.length_cons, c]
    · simp only [PyData.depthAll]
      omega
theorem Sm.list {n k : Nat} {ds : List PyData} (h : ∀ d ∈ ds, Sm d n k) : Sm (.list ds) (n * ds.length + 2 * ds.length + 3) (k + 1) := by
  obtain ⟨a, ⟨b, c⟩, e⟩ := sm_all h
  refine ⟨by simpa only [PyData.showable] using a, ?_, by simp only [PyData.depth]; omega⟩
  have jl := PySem.listText_len_le (PyData.shownAll ds)
  rw [c] at jl
  have e4 : (PyData.list ds).shown = PySem.listText (PyData.shownAll ds) := by simp only [PyData.shown]
  rw [e4]
  omega
theorem Sm.tuple {n k : Nat} {ds : List PyData} (h : ∀ d ∈ ds, Sm d n k) : Sm (.tuple ds) (n * ds.length + 2 * ds.length + 3) (k + 1) := by
  obtain ⟨a, ⟨b, c⟩, e⟩ := sm_all h
  refine ⟨by simpa only [PyData.showable] using a, ?_, by simp only [PyData.depth]; omega⟩
  have jl := join_len (Str.ofString ", ") (PyData.shownAll ds)
  have e1 : (Str.ofString ", ").length = 2 := rfl
  have e2 : (Str.ofString "(").length = 1 := rfl
  have e3 : (Str.ofString ")").length = 1 := rfl
  have e4 : (Str.ofString ",)").length = 2 := rfl
  rw [e1, c] at jl
  match ds, jl, b, c with
  | [], jl, b, c => exact Nat.le_trans (show (PyData.shown (.tuple [])).length ≤ 3 by decide +kernel) (by omega)
  | [x], jl, b, c =>
    have b' : x.shown.length ≤ n := by simpa [PyData.shownAll] using b
    show ((Str.ofString "(") ++ x.shown ++ (Str.ofString ",)")).length ≤ _
    rw [len_app, len_app, e2, e4]
    simp only [List.length_cons, List.length_nil]
    omega
  | x :: y :: r, jl, b, c =>
    show ((Str.ofString "(") ++ Str.join (Str.ofString ", ") (PyData.shownAll (x :: y :: r)) ++ (Str.ofString ")")).length ≤ _
    rw [len_app, len_app, e2, e3]
    omega
theorem line_ok {n : Nat} (h : n ≤ 16777216) : n ≤ sizeLine := by
  rw [sizeLine_eq]
  exact h
theorem repr_sm {H : Hp} {Q : VK} {x : V} {d : PyData} {n k : Nat} (h : Rep H x d) (s : Sm d n k) (hn : n ≤ 16777216) (hk : k ≤ 60) (q : Q (.str d.shown) H) : rRepr [x] H Q := ⟨x, d, rfl, h, s.s, line_ok (Nat.le_trans s.l hn), Nat.le_trans s.d hk, q⟩
end Wk
set_option maxRecDepth 100000
set_option maxHeartbeats 4000000
namespace Wk
open PySem PySem.Spec PyProof.Rows L2
inductive KT : Key → Str → Prop
  | int (i : Int) (h : i.natAbs.log2 < 1920) : KT (.inl i) (toString i)
  | str (x : Str) : KT (.inr x) (reprText x)
mutual
/-- what repr shows of v, and how deep it goes -/
inductive Shw (K : PySem.W.Frag) (H : Hp) : V → Str → Nat → Prop
  | non : Shw K H .non "None" 0
  | bl (b : Bool) : Shw K H (.bl b) (if b then "True" else "False") 0
  | int (i : Int) (h : i.natAbs.log2 < 1920) : Shw K H (.int i) (toString i) 0
  | str (x : Str) : Shw K H (.str x) (reprText x) 0
  | exc {a d C t1 : Addr} {z : Str} (e : H a = some (exq a C (some d) t1)) (e2 : H t1 = some (.tup [.str z])) (q : ExQ K C) : Shw K H (.ref a) (exHd K C ++ "(" ++ reprText z ++ ")") 1
  | lst {a : Addr} {vs : List V} {ts : List Str} {n : Nat} (e : H a = some (.lst vs)) (l : ShwL K H vs ts n) : Shw K H (.ref a) (listText ts) (n + 1)
  | tup {a : Addr} {vs : List V} {ts : List Str} {n : Nat} (e : H a = some (.tup vs)) (l : ShwL K H vs ts n) : Shw K H (.ref a) (tupleText ts) (n + 1)
  | dict {a : Addr} {kvs : List (Key × V)} {ts : List Str} {n : Nat} (e : H a = some (.dK kvs)) (l : ShwK K H kvs ts n) : Shw K H (.ref a) (dictText ts) (n + 1)
inductive ShwL (K : PySem.W.Frag) (H : Hp) : List V → List Str → Nat → Prop
  | nil : ShwL K H [] [] 0
  | cons {v : V} {vs : List V} {t : Str} {ts : List Str} {m n : Nat} (h : Shw K H v t m) (l : ShwL K H vs ts n) : ShwL K H (v :: vs) (t :: ts) (max m n)
inductive ShwK (K : PySem.W.Frag) (H : Hp) : List (Key × V) → List Str → Nat → Prop
  | nil : ShwK K H [] [] 0
  | cons {k : Key} {v : V} {kvs : List (Key × V)} {kt t : Str} {ts : List Str} {m n : Nat} (kk : KT k kt) (h : Shw K H v t m) (l : ShwK K H kvs ts n) : ShwK K H ((k, v) :: kvs) ((kt ++ ": " ++ t) :: ts) (max m n)
end
section
variable {K : PySem.W.Frag} {H H' : Hp}
mutual
theorem Shw.mono (x : Ex H H') : ∀ {v : V} {t : Str} {n : Nat}, Shw K H v t n → Shw K H' v t n
  | _, _, _, .non => .non
  | _, _, _, .bl b => .bl b
  | _, _, _, .int i h => .int i h
  | _, _, _, .str z => .str z
  | _, _, _, .exc e e2 q => .exc (x _ _ e) (x _ _ e2) q
  | _, _, _, .lst e l => .lst (x _ _ e) (ShwL.mono x l)
  | _, _, _, .tup e l => .tup (x _ _ e) (ShwL.mono x l)
  | _, _, _, .dict e l => .dict (x _ _ e) (ShwK.mono x l)
theorem ShwL.mono (x : Ex H H') : ∀ {v : List V} {t : List Str} {n : Nat}, ShwL K H v t n → ShwL K H' v t n
  | _, _, _, .nil => .nil
  | _, _, _, .cons h l => .cons (Shw.mono x h) (ShwL.mono x l)
theorem ShwK.mono (x : Ex H H') : ∀ {v : List (Key × V)} {t : List Str} {n : Nat}, ShwK K H v t n → ShwK K H' v t n
  | _, _, _, .nil => .nil
  | _, _, _, .cons kk h l => .cons kk (Shw.mono x h) (ShwK.mono x l)
end
theorem exq_is {a C t1 : Addr} {d : Option Addr} {o : HO} (h : H a = some o) (e : H a = some (exq a C d t1)) : ∃ φ, o = .ext φ := by
  rw [h] at e
  exact ⟨_, Option.some.inj e⟩
mutual
theorem Shw.det : ∀ {v : V} {t : Str} {n : Nat}, Shw K H v t n → ∀ {t' : Str} {n' : Nat}, Shw K H v t' n' → n = n'
  | _, _, _, .non, _, _, h => by cases h; rfl
  | _, _, _, .bl b, _, _, h => by cases h; rfl
  | _, _, _, .int i _, _, _, h => by cases h; rfl
  | _, _, _, .str z, _, _, h => by cases h; rfl
  | _, _, _, .exc e e2 q, _, _, h => by
    cases h with
    | exc f f2 g => rfl
    | lst f l => obtain ⟨_, z⟩ := exq_is f e; cases z
    | tup f l => obtain ⟨_, z⟩ := exq_is f e; cases z
    | dict f l => obtain ⟨_, z⟩ := exq_is f e; cases z
  | _, _, _, .lst e l, _, _, h => by
    cases h with
    | exc f f2 g => obtain ⟨_, z⟩ := exq_is e f; cases z
    | lst f l2 => rw [e] at f; cases f; rw [ShwL.det l l2]
    | tup f l => rw [e] at f; cases f
    | dict f l => rw [e] at f; cases f
  | _, _, _, .tup e l, _, _, h => by
    cases h with
    | exc f f2 g => obtain ⟨_, z⟩ := exq_is e f; cases z
    | lst f l2 => rw [e] at f; cases f
    | tup f l2 => rw [e] at f; cases f; rw [ShwL.det l l2]
    | dict f l => rw [e] at f; cases f
  | _, _, _, .dict e l, _, _, h => by
    cases h with
    | exc f f2 g => obtain ⟨_, z⟩ := exq_is e f; cases z
    | lst f l2 => rw [e] at f; cases f
    | tup f l2 => rw [e] at f; cases f
    | dict f l2 => rw [e] at f; cases f; rw [ShwK.det l l2]
theorem ShwL.det : ∀ {v : List V} {t : List Str} {n : Nat}, ShwL K H v t n → ∀ {t' : List Str} {n' : Nat}, ShwL K H v t' n' → n = n'
  | _, _, _, .nil, _, _, h => by cases h; rfl
  | _, _, _, .cons h l, _, _, h' => by
    cases h' with
    | cons h2 l2 => rw [Shw.det h h2, ShwL.det l l2]
theorem ShwK.det : ∀ {v : List (Key × V)} {t : List Str} {n : Nat}, ShwK K H v t n → ∀ {t' : List Str} {n' : Nat}, ShwK K H v t' n' → n = n'
  | _, _, _, .nil, _, _, h => by cases h; rfl
  | _, _, _, .cons kk h l, _, _, h' => by
    cases h' with
    | cons kk2 h2 l2 => rw [Shw.det h h2, ShwK.det l l2]
end
def AtMost (K : PySem.W.Frag) (H : Hp) (n : Nat) (as : List Addr) : Prop := ∀ b ∈ as, ∃ t m, Shw K H (.ref b) t m ∧ m ≤ n
theorem AtMost.mono' {n m : Nat} {as : List Addr} (h : AtMost K H n as) (l : n ≤ m) : AtMost K H m as := fun b hb => let ⟨t, k, a, c⟩ := h b hb; ⟨t, k, a, Nat.le_trans c l⟩
theorem AtMost.app {n : Nat} {as bs : List Addr} (h : AtMost K H n as) (g : AtMost K H n bs) : AtMost K H n (as ++ bs) := fun b hb => (List.mem_append.mp hb).elim (h b) (g b)
theorem AtMost.cons {n : Nat} {a : Addr} {as : List Addr} {t : Str} (h : AtMost K H n as) (s : Shw K H (.ref a) t (n + 1)) : AtMost K H (n + 1) (a :: as) := fun b hb => by
  rcases List.mem_cons.mp hb with e | hb
  · subst e
    exact ⟨t, _, s, Nat.le_refl _⟩
  · exact (h.mono' (Nat.le_succ n)) b hb
theorem AtMost.not {n : Nat} {a : Addr} {as : List Addr} {t : Str} (h : AtMost K H n as) (s : Shw K H (.ref a) t (n + 1)) : a ∉ as := fun hm => by
  obtain ⟨t', m, s', l⟩ := h a hm
  have := Shw.det s s'
  omega
end
section
variable {X : Cx} {pins : List (Addr × Obj)} {σ : L2.St} {H : Hp} {s : Shared}
theorem xat_of {e d C t1 : Addr} {z : Str} (I : Inv X pins σ H s) (e1 : H e = some (exq e C (some d) t1)) (e2 : H t1 = some (.tup [.str z])) (q : ExQ X.K C) : ∃ tk, XAt X.K C s.heap e z tk := by
  have g1 := exq_at I.hok e1
  obtain ⟨its, rv, ⟨o, ho, hc, n, hd⟩, _⟩ := I.tuple (SqT.of e2)
  cases rv with
  | @cons _ u _ us r1 r2 =>
    cases r2
    obtain ⟨tk, rfl⟩ := r1
    exact ⟨tk, q, I.kIn, t1, some d, g1, o, n, ho, hc, hd⟩
theorem key_k {as : List Addr} {h0 : Heap} {d : Nat} {k : Key} {u : Value} {kt : Str} (hk : keyIs k u = true) (kk : KT k kt) (hz : kt.length ≤ sizeLine) : ReprK X.prog X.w as h0 d u kt := by
  cases kk with
  | int i h =>
    obtain ⟨t, rfl⟩ := Value.isInt_shape (k := i) (v := u) hk
    exact .of_is (ReprIs.int t h) _ _ _
  | str x =>
    obtain ⟨t, rfl⟩ := Value.isStrOf_shape (x := x) (v := u) hk
    exact .of_is (ReprIs.str x t hz) _ _ _
theorem entries_more {prog : Program} {w : World} {h₀ : Heap} {as as' : List Addr} {d d' : Nat} (hsub : ∀ b ∈ as, b ∈ as') (hd : d ≤ d') : ∀ {es : List DictEntry} {ps : List Str}, ReprEntriesK prog w as h₀ d es ps → ReprEntriesK prog w as' h₀ d' es ps
  | _, _, .nil => .nil
  | _, _, .cons h1 h2 l => .cons ((h1.more hsub).level_le hd) ((h2.more hsub).level_le hd) (entries_more hsub hd l)
mutual
theorem Shw.k (I : Inv X pins σ H s) (hs : HasSys X.K) : ∀ {v : V} {t : Str} {n : Nat} {u : Value}, Shw X.K H v t n → RelV v u → t.length ≤ sizeLine → ∃ as, AtMost X.K H n as ∧ ReprK X.prog X.w as s.heap n u t
  | _, _, _, _, .non, r, _ => by
    cases r
    exact ⟨[], (fun _ h => nomatch h), .of_is ReprIs.none _ _ _⟩
  | _, _, _, _, .bl b, r, _ => by
    cases r
    exact ⟨[], (fun _ h => nomatch h), .of_is (ReprIs.bool b) _ _ _⟩
  | _, _, _, _, .int i hi, r, _ => by
    obtain ⟨t, rfl⟩ := r
    exact ⟨[], (fun _ h => nomatch h), .of_is (ReprIs.int t hi) _ _ _⟩
  | _, _, _, _, .str z, r, hz => by
    obtain ⟨t, rfl⟩ := r
    exact ⟨[], (fun _ h => nomatch h), .of_is (ReprIs.str z t hz) _ _ _⟩
  | _, _, _, _, .exc e e2 q, r, hz => by
    cases r
    obtain ⟨tk, x⟩ := xat_of I e e2 q
    exact ⟨[], (fun _ h => nomatch h), fun base hb A g E s' Q hg hcl hu hk0 hQ => xat_under (by omega) (x.keeps hk0) (hQ _ _ fun _ _ e => e) hb⟩
  | _, _, _, _, .lst e l, r, hz => by
    cases r
    have sh := Shw.lst e l
    obtain ⟨its, rv, ⟨o, n, ho, hc, _, hd⟩, _⟩ := I.list (SqL.of e)
    obtain ⟨as, hb, hk⟩ := ShwL.k I hs l rv (fun t ht => Nat.le_trans (listText_mem_le ht) hz)
    refine ⟨_ :: as, hb.cons sh, ?_⟩
    cases its with
    | nil =>
      cases rv
      cases l
      have e0 : listText [] = ("[]" : Str) := listText_nil
      rw [e0]
      exact ReprK.listEmpty ho hc hd
    | cons x l' => exact ReprK.list ho hc hd (hb.not sh) (by simpa using hk.length_eq) (fun i y e => hk.item i y (by simpa using e))
  | _, _, _, _, .tup e l, r, hz => by
    cases r
    have sh := Shw.tup e l
    obtain ⟨its, rv, ⟨o, ho, hc, n, hd⟩, _⟩ := I.tuple (SqT.of e)
    obtain ⟨as, hb, hk⟩ := ShwL.k I hs l rv (fun t ht => Nat.le_trans (tupleText_mem_le ht) hz)
    exact ⟨_ :: as, hb.cons sh, ReprK.tuple ho hc hd (hb.not sh) (by simpa using hk)⟩
  | _, _, _, _, .dict e l, r, hz => by
    cases r
    have sh := Shw.dict e l
    obtain ⟨_, hsys, vs, rv, o, es, ep, ho, hx, hd, _, hp, _⟩ := I.hok _ _ e
    obtain ⟨as, hb, hk⟩ := ShwK.k I hs l rv hp (fun t ht => Nat.le_trans (dictText_mem_le ht) hz)
    exact ⟨_ :: as, hb.cons sh, ReprK.dict ho hx.1 hd hsys (hb.not sh) hk⟩
theorem ShwL.k (I : Inv X pins σ H s) (hs : HasSys X.K) : ∀ {vs : List V} {ts : List Str} {n : Nat} {us : List Value}, ShwL X.K H vs ts n → Vals vs us → (∀ t ∈ ts, t.length ≤ sizeLine) → ∃ as, AtMost X.K H n as ∧ ReprAllK X.prog X.w as s.heap n us ts
  | _, _, _, _, .nil, r, _ => by
    cases r
    exact ⟨[], (fun _ h => nomatch h), .nil⟩
  | _, _, _, _, .cons h l, r, hz => by
    cases r with
    | cons r1 r2 =>
      obtain ⟨as, h1, k1⟩ := Shw.k I hs h r1 (hz _ (List.mem_cons_self ..))
      obtain ⟨bs, h2, k2⟩ := ShwL.k I hs l r2 fun t ht => hz t (List.mem_cons_of_mem _ ht)
      exact ⟨as ++ bs, (h1.mono' (Nat.le_max_left ..)).app (h2.mono' (Nat.le_max_right ..)), .cons ((k1.more fun b hb => List.mem_append_left _ hb).level_le (Nat.le_max_left _ _)) (k2.more_le (fun b hb => List.mem_append_right _ hb) (Nat.le_max_right _ _))⟩
theorem ShwK.k (I : Inv X pins σ H s) (hs : HasSys X.K) : ∀ {kvs : List (Key × V)} {ts : List Str} {n : Nat} {us : List (Key × Value)} {es : List DictEntry}, ShwK X.K H kvs ts n → KV kvs us → Pairs (mixKind X.prog X.w) es us → (∀ t ∈ ts, t.length ≤ sizeLine) →
    ∃ as, AtMost X.K H n as ∧ ReprEntriesK X.prog X.w as s.heap n es ts
  | _, _, _, _, _, .nil, r, p, _ => by
    cases r
    cases p
    exact ⟨[], (fun _ h => nomatch h), .nil⟩
  | _, _, _, _, _, .cons (t := t) (kt := kt) kk h l, r, p, hz => by
    cases r with
    | cons r1 r2 =>
      cases p with
      | cons p1 p2 p3 =>
        obtain ⟨e1, e2⟩ := r1
        have hl := hz _ (List.mem_cons_self ..)
        rw [len_app, len_app] at hl
        obtain ⟨bs, h2, k2⟩ := ShwK.k I hs l r2 p3 fun t ht => hz t (List.mem_cons_of_mem _ ht)
        rw [← e1] at p1
        rw [← p2] at e2
        obtain ⟨as, h1, k1⟩ := Shw.k I hs h e2 (by omega)
        refine ⟨as ++ bs, (h1.mono' (Nat.le_max_left ..)).app (h2.mono' (Nat.le_max_right ..)), .cons (key_k (show keyIs _ _ = true from p1) kk (by omega)) ((k1.more fun b hb => List.mem_append_left _ hb).level_le (Nat.le_max_left _ _)) ?_⟩
        exact entries_more (fun b hb => List.mem_append_right _ hb) (Nat.le_max_right _ _) k2
end
end
end Wk
set_option maxRecDepth 100000
set_option maxHeartbeats 4000000
namespace Wk
open PySem PySem.Spec PyProof.Rows L2
/-- a list's cell, a dict's cell -/
def LD (o : HO) : Prop := (∃ xs, o = .lst xs) ∨ ∃ kvs, o = .dK kvs
/-- a drawn thing, or a list or a dict that changes -/
def Mt (K : PySem.W.Frag) (R : Cells) (D : Hp) (v : V) : Prop := Th K D v ∨ ∃ p o, v = .ref p ∧ ((p, o) : Addr × HO) ∈ R ∧ LD o
section
variable {K : PySem.W.Frag} {R R' : Cells} {D D' H : Hp} {v : V} {c : Addr × HO}
theorem Th.m (h : Th K D v) : Mt K R D v := .inl h
theorem Mt.at {p : Addr} {xs : List V} (h : ((p, HO.lst xs) : Addr × HO) ∈ R) : Mt K R D (.ref p) := .inr ⟨p, _, rfl, h, .inl ⟨xs, rfl⟩⟩
theorem Mt.mono (h : Mt K R D v) (x : Ex D D') : Mt K R D' v := by
  rcases h with h | h
  · exact .inl (h.mono x)
  · exact .inr h
theorem Mt.cell (h : Mt K R D v) : Mt K (c :: R) D v := by
  rcases h with h | ⟨p, o, e, m, l⟩
  · exact .inl h
  · exact .inr ⟨p, o, e, List.mem_cons_of_mem _ m, l⟩
theorem Mt.sub (h : Mt K R D v) (s : ∀ q ∈ R, q ∈ R') : Mt K R' D v := by
  rcases h with h | ⟨p, o, e, m, l⟩
  · exact .inl h
  · exact .inr ⟨p, o, e, s _ m, l⟩
theorem Mt.kn (h : Mt K R D v) (hI : HI H R D) : (∃ k, Kn K H v k) ∧ ∀ z, v = .str z → TxtOk z := by
  rcases h with h | ⟨p, o, rfl, m, l⟩
  · obtain ⟨⟨k, kn⟩, q⟩ := h
    exact ⟨⟨k, hI.kn kn⟩, q⟩
  · rcases l with ⟨xs, rfl⟩ | ⟨kvs, rfl⟩
    · exact ⟨⟨.lst, .lst (hI.get m)⟩, fun z e => by cases e⟩
    · exact ⟨⟨.dict, .dict (hI.get m)⟩, fun z e => by cases e⟩
end
/-- a refusal gets out: of the class at C, the very thing v in it -/
def Outs (E : XK) (C : Addr) (v : V) (R : Cells) (D : Hp) : Prop := ∀ d H' D', HI H' R D' → Ex D D' → D' d = some (.xd [(("found" : Str), v)]) → E (.ref C) (some d) H'
theorem Outs.mono {E : XK} {C : Addr} {v : V} {R : Cells} {D D1 : Hp} (o : Outs E C v R D) (x : Ex D D1) : Outs E C v R D1 := fun d H' D' hi ex hd => o d H' D' hi (x.trans ex) hd
theorem Outs.cell {E : XK} {C : Addr} {v : V} {R : Cells} {D : Hp} {x : Addr × HO} (o : Outs E C v R D) : Outs E C v (x :: R) D := fun d H' D' hi ex hd => o d H' D' hi.drop ex hd
end Wk
set_option maxRecDepth 100000
set_option maxHeartbeats 4000000
namespace Wk
open PySem PySem.Spec PyProof.Rows L2
abbrev LCs := List (Addr × List V)
def lcs (LC : LCs) : Cells := LC.map fun c => (c.1, HO.lst c.2)
/-- a list's items, at most m -/
def Lg (D : Hp) (m : Nat) (xs : List V) : Prop := ∃ ds, RepL D xs ds ∧ (∀ d ∈ ds, Sm d 100 3) ∧ ds.length ≤ m
theorem Lg.mono {D D' : Hp} {m m' : Nat} {xs : List V} (h : Lg D m xs) (x : Ex D D') (l : m ≤ m') : Lg D' m' xs := by
  obtain ⟨ds, a, b, c⟩ := h
  exact ⟨ds, a.mono x, b, Nat.le_trans c l⟩
theorem Lg.snoc {D : Hp} {m : Nat} {xs : List V} {v : V} {d : PyData} (h : Lg D m xs) (r : Rep D v d) (s : Sm d 100 3) : Lg D (m + 1) (xs ++ [v]) := by
  obtain ⟨ds, a, b, c⟩ := h
  refine ⟨ds ++ [d], a.snoc r, fun e he => ?_, by rw [List.length_append]; exact Nat.succ_le_succ c⟩
  rcases List.mem_append.mp he with q | q
  · exact b e q
  · rw [List.mem_singleton.mp q]
    exact s
theorem Lg.len {D : Hp} {m : Nat} {xs : List V} (h : Lg D m xs) : xs.length ≤ m := by
  obtain ⟨ds, a, b, c⟩ := h
  rw [a.length]
  exact c
/-- a thing: data, or one of the lists -/
def Vg (K : PySem.W.Frag) (LC : LCs) (D : Hp) (v : V) : Prop := (∃ k d, Kn K D v k ∧ k.is "list" = false ∧ Rep D v d ∧ Sm d 100 3 ∧ ∀ z, v = .str z → TxtOk z) ∨ ∃ c ∈ LC, v = .ref c.1
section
variable {K : PySem.W.Frag} {LC : LCs} {D D' H : Hp} {R : Cells} {v : V}
theorem Vg.mono (h : Vg K LC D v) (x : Ex D D') : Vg K LC D' v := by
  rcases h with ⟨k, d, a, b, c, e, f⟩ | h
  · exact .inl ⟨k, d, a.mono x, b, c.mono x, e, f⟩
  · exact .inr h
theorem Vg.more {LN : LCs} (h : Vg K LC D v) : Vg K (LN ++ LC) D v := by
  rcases h with h | ⟨c, m, e⟩
  · exact .inl h
  · exact .inr ⟨c, List.mem_append_right _ m, e⟩
theorem Vg.m (h : Vg K LC D v) (s : ∀ q ∈ lcs LC, q ∈ R) : Mt K R D v := by
  rcases h with ⟨k, d, a, b, c, e, f⟩ | ⟨c, m, rfl⟩
  · exact .inl ⟨⟨k, a⟩, f⟩
  · exact .inr ⟨c.1, .lst c.2, rfl, s _ (List.mem_map.mpr ⟨c, m, rfl⟩), .inl ⟨_, rfl⟩⟩
theorem Vg.non : Vg K LC D .non := .inl ⟨.non, _, .non, rfl, .non, Sm.non.mono (by decide) (by decide), fun z e => by cases e⟩
theorem Vg.bl (b : Bool) : Vg K LC D (.bl b) := .inl ⟨.bl, _, .bl b, rfl, .bl b, (Sm.bl b).mono (by decide) (by decide), fun z e => by cases e⟩
theorem Vg.int {i : Int} (h : i.natAbs < 10 ^ 30) : Vg K LC D (.int i) := .inl ⟨.int, _, .int i, rfl, .int i, (Sm.int h).mono (by decide) (by decide), fun z e => by cases e⟩
theorem Vg.str {z : Str} (h : Sg z) (l : z.length ≤ 9) : Vg K LC D (.str z) := .inl ⟨.str, _, .str z, rfl, .str z, (Sm.str h).mono (by omega) (by decide), fun y e => by cases e; exact ⟨by omega, h⟩⟩
theorem Vg.tup {p : Addr} {xs : List V} {d : PyData} (e : D p = some (.tup xs)) (r : Rep D (.ref p) d) (s : Sm d 100 3) : Vg K LC D (.ref p) := .inl ⟨.tup, d, .tup e, rfl, r, s, fun z e => by cases e⟩
theorem Vg.dict {p : Addr} {xs : List (Key × V)} {d : PyData} (e : D p = some (.dK xs)) (r : Rep D (.ref p) d) (s : Sm d 100 3) : Vg K LC D (.ref p) := .inl ⟨.dict, d, .dict e, rfl, r, s, fun z e => by cases e⟩
/-- the thing as repr sees it -/
theorem Vg.rep (h : Vg K LC D v) {m : Nat} (hm : m ≤ 100) (hI : HI H R D) (s : ∀ q ∈ lcs LC, q ∈ R) (g : ∀ c ∈ LC, Lg D m c.2) : ∃ d, Rep H v d ∧ Sm d 11000 4 := by
  rcases h with ⟨k, d, a, b, c, e, f⟩ | ⟨c, mc, rfl⟩
  · exact ⟨d, hI.rep c, e.mono (by decide) (by decide)⟩
  · obtain ⟨ds, r, sm, l⟩ := g c mc
    refine ⟨.list ds, .lst (hI.get (s _ (List.mem_map.mpr ⟨c, mc, rfl⟩))) (r.mono hI.sub), (Sm.list sm).mono ?_ (Nat.le_refl _)⟩
    omega
end
def putC (p : Addr) (o : HO) (R : Cells) : Cells := R.map fun q => if q.1 = p then (p, o) else q
def putL (p : Addr) (xs : List V) (LC : LCs) : LCs := LC.map fun c => if c.1 = p then (p, xs) else c
theorem HI.put {H D : Hp} {R : Cells} {p : Addr} {o u : HO} (h : HI H R D) (m : (p, o) ∈ R) : HI (upd H p u) (putC p u R) D := by
  have keys : (putC p u R).map (·.1) = R.map (·.1) := by
    unfold putC
    rw [List.map_map]
    refine List.map_congr_left fun q _ => ?_
    show (if q.1 = p then (p, u) else q).1 = q.1
    by_cases e : q.1 = p
    · rw [if_pos e, e]
    · rw [if_neg e]
  have dp := (h.cell _ m).2
  refine ⟨by rw [keys]; exact h.nd, fun q hq => ?_, fun b w e => ?_⟩
  · obtain ⟨q0, m0, rfl⟩ := List.mem_map.mp hq
    by_cases e : q0.1 = p
    · rw [if_pos e]
      exact ⟨upd_same, dp⟩
    · rw [if_neg e, upd_ne e]
      exact h.cell q0 m0
  · have ne : b ≠ p := fun e2 => by
      rw [e2, dp] at e
      cases e
    rw [upd_ne ne]
    exact h.sub b w e
theorem Vg.put {K : PySem.W.Frag} {D : Hp} {LC : LCs} {p : Addr} {xs : List V} {v : V} (h : Vg K LC D v) : Vg K (putL p xs LC) D v := by
  rcases h with h | ⟨c, m, rfl⟩
  · exact .inl h
  · refine .inr ⟨if c.1 = p then (p, xs) else c, List.mem_map.mpr ⟨c, m, rfl⟩, ?_⟩
    by_cases e : c.1 = p
    · rw [if_pos e, e]
    · rw [if_neg e]
end Wk
set_option maxRecDepth 100000
set_option maxHeartbeats 4000000
namespace Wk
open PySem PySem.Spec PyProof.Rows L2
theorem hu1 {k : Nat} {A : Around} (r : Room k A) : A.units + 1 < cLine := by have := r.units; omega
def DgP (x : V) (H : Hp) (N : Addr → Prop) : Prop := ∃ a, x = .ref a ∧ IsD H a ∧ N a
def DqP (a : Addr) (y : V) (H : Hp) (N : Option V → Prop) : Prop := ∃ o, DGet H a y o ∧ N o
def DvP (x y : V) (H : Hp) (N : V → Prop) : Prop := ∃ a v, x = .ref a ∧ DGet H a y (some v) ∧ N v
def DiP (x y : V) (H : Hp) (N : Option V → Prop) : Prop := ∃ a o, x = .ref a ∧ DGet H a y o ∧ N o
def DpP (x y v : V) (H : Hp) (N : Hp → Prop) : Prop := ∃ a H', x = .ref a ∧ DPut H a y v H' ∧ N H'
def DoP (a : Addr) (y : V) (H : Hp) (Q : VK) : Prop := ∃ kvs k v, H a = some (.dK kvs) ∧ y = kV k ∧ valV kvs k = some v ∧ Q v (upd H a (.dK (dropK kvs k)))
section
variable {K : PySem.W.Frag} {σ : L2.St} {H D : Hp} {R : Cells} {Q : VK} {td ty tx tv : TE} {Ds : Ends} {a : Addr} {kvs : List (Key × V)} {i : Int} {z : Str} {v : V}
theorem se_dget2 (h : td σ H fun x H1 => DgP x H1 fun a => ty σ H1 fun y H2 => tx σ H2 fun z H3 => DqP a y H3 fun o => Q (o.getD z) H3) : tDGet2 td ty tx σ H Q := h
theorem se_dget1 (h : td σ H fun x H1 => DgP x H1 fun a => ty σ H1 fun y H2 => DqP a y H2 fun o => Q (o.getD .non) H2) : tDGet1 td ty σ H Q := h
theorem dg_mk {N : Addr → Prop} (e : H a = some (.dK kvs)) (h : N a) : DgP (.ref a) H N := ⟨a, rfl, .inl ⟨kvs, .inl e⟩, h⟩
theorem dq_i {N : Option V → Prop} (e : H a = some (.dK kvs)) (h : N (valV kvs (.inl i))) : DqP a (.int i) H N := ⟨_, DGet.k (k := Sum.inl i) e, h⟩
theorem dq_s {N : Option V → Prop} (e : H a = some (.dK kvs)) (h : N (valV kvs (.inr z))) : DqP a (.str z) H N := ⟨_, DGet.k (k := Sum.inr z) e, h⟩
theorem se_dsub (h : td σ H fun x H1 => ty σ H1 fun y H2 => DvP x y H2 fun v => Q v H2) : tDGet td ty σ H Q := h
theorem dv_i {N : V → Prop} (e : H a = some (.dK kvs)) (l : valV kvs (.inl i) = some v) (h : N v) : DvP (.ref a) (.int i) H N := ⟨a, v, rfl, by rw [← l]; exact DGet.k (k := Sum.inl i) e, h⟩
theorem se_din (h : ty σ H fun y H1 => td σ H1 fun x H2 => DiP x y H2 fun o => Q (.bl o.isSome) H2) : tDIn ty td σ H Q := h
theorem se_dni (h : ty σ H fun y H1 => td σ H1 fun x H2 => DiP x y H2 fun o => Q (.bl (!o.isSome)) H2) : tDNotIn ty td σ H Q := h
theorem di_i {N : Option V → Prop} (e : H a = some (.dK kvs)) (h : N (valV kvs (.inl i))) : DiP (.ref a) (.int i) H N := ⟨a, _, rfl, DGet.k (k := Sum.inl i) e, h⟩
theorem di_s {N : Option V → Prop} (e : H a = some (.dK kvs)) (h : N (valV kvs (.inr z))) : DiP (.ref a) (.str z) H N := ⟨a, _, rfl, DGet.k (k := Sum.inr z) e, h⟩
theorem st_dput (h : tv σ H fun v H1 => td σ H1 fun x H2 => ty σ H2 fun y H3 => DpP x y v H3 fun H4 => Ds.nx σ H4) : sDPut td ty tv Ds σ H := h
theorem dp_i {N : Hp → Prop} (hi : HI H ((a, .dK kvs) :: R) D) (hl : kvs.length < 1000000) (k : ∀ H', HI H' ((a, .dK (putK kvs (.inl i) v)) :: R) D → N H') : DpP (.ref a) (.int i) v H N :=
  ⟨a, _, rfl, DPut.k (k := Sum.inl i) (hi.get (List.mem_cons_self ..)) (by rw [sizeLine_eq]; omega), k _ hi.set⟩
theorem dp_s {N : Hp → Prop} (hi : HI H ((a, .dK kvs) :: R) D) (hl : kvs.length < 1000000) (k : ∀ H', HI H' ((a, .dK (putK kvs (.inr z) v)) :: R) D → N H') : DpP (.ref a) (.str z) v H N :=
  ⟨a, _, rfl, DPut.k (k := Sum.inr z) (hi.get (List.mem_cons_self ..)) (by rw [sizeLine_eq]; omega), k _ hi.set⟩
theorem se_dpop1 (h : td σ H fun x H1 => DgP x H1 fun a => ty σ H1 fun y H2 => DoP a y H2 Q) : tDPop1 td ty σ H Q := h
theorem do_i (hi : HI H ((a, .dK kvs) :: R) D) (l : valV kvs (.inl i) = some v) (k : ∀ H', HI H' ((a, .dK (dropK kvs (.inl i))) :: R) D → Q v H') : DoP a (.int i) H Q := ⟨kvs, .inl i, v, hi.get (List.mem_cons_self ..), rfl, l, k _ hi.set⟩
end
def tDNewM : TE := tDNewK
theorem pe_dnewM {X : Cx} {pos : Pos} : PE X (.Dict [] [] pos) tDNewM := pe_dnewK
theorem se_dnewM {σ : L2.St} {H : Hp} {Q : VK} (h : AlM (.dK []) H Q) : tDNewM σ H Q := h
inductive RLenO (C : Addr) (sp : Sp) : List V → Hp → VK → Prop
  | b {xs : List V} {H : Hp} {Q : VK} : RLen xs H Q → RLenO C sp xs H Q
  | o {a dx : Addr} {fs : List (Str × V)} {H : Hp} {Q : VK} : H a = some (.ins C dx fs) → sp [.ref a] H (fun v H' => ∃ n : Int, v = .int n ∧ 0 ≤ n ∧ n < 2 ^ 62 ∧ Q (.int n) H') (fun _ _ _ => False) → RLenO C sp [.ref a] H Q
theorem call_lenO {X : Cx} {k : Nat} {f C : Addr} {sp : Sp} {ps : List Str} (hc : PySem.W.findIn X.K (.ref C) "__len__" = some (some (.ref f))) (hf : PySem.W.isFn X.K (.ref f) = true) (F : FnG X.prog X.w X.K X.mg X.base k f ps sp) (hb : Binds X.K (fdOf X.K f) ps []) (hgu : X.A.guards = some []) (hr : Room (k + 1) X.A) :
    CallR X (.builtin "len") (RLenO C sp) := by
  intro pins s σ H xs us Q I r h
  cases h with
  | b q => exact call_lenU pins s σ H _ us Q I r q
  | @o a dx fs _ _ e q =>
    obtain ⟨u, rfl, ru⟩ := vals1 r
    cases ru
    obtain ⟨ox, od, J⟩ := ins_at I e
    obtain ⟨m, hF⟩ := I.fr
    refine PySem.W.len_K hF I.ok.mod.kin J hc hf ?_
    refine wpAny_mono (run_at F (by exact hgu) rfl hr.in1 hb I (.cons (show L2.RelV (.ref a) (.ref a) from rfl) .nil) q) (fun u' s' hu => ?_) fun _ _ z => z
    obtain ⟨w, H', I', rw', n, rfl, n0, n1, q'⟩ := hu
    obtain ⟨t, rfl⟩ := rw'
    exact ⟨⟨n0, Int.lt_trans n1 (by decide)⟩, ⟨.int n, H', I'.tok _, ⟨_, rfl⟩, q'⟩⟩
def iSeq (K : PySem.W.Frag) (tl : TE) : TI := fun σ H R => tl σ H fun x H1 => (∃ a, x = .ref a ∧ (∃ xs, SqL K H1 a xs) ∧ R (Itl K a) H1) ∨ ∃ a, x = .ref a ∧ (∃ xs, SqT K H1 a xs) ∧ R (Itt K a) H1
theorem pi_seq {X : Cx} {tg l : Expr} {tl : TE} (hl : PE X l tl) : PI X tg l (iSeq X.K tl) := by
  refine ⟨fun pins s σ H R I h => ?_⟩
  refine thn (hl.run pins s σ H _ I h) fun v s1 ⟨x, H1, I1, r1, q1⟩ => ?_
  rcases q1 with ⟨a, e, ⟨xs, hq⟩, q⟩ | ⟨a, e, ⟨xs, hq⟩, q⟩
  · subst e
    cases r1
    obtain ⟨its, rv, p, hz⟩ := I1.list hq
    refine wpAny_pyIter_list p.isList ?_
    refine ⟨s1.heap.objs.size, [s1.heap.objs.size], _, _, H1, rfl, I1.kept (t' := s1.toks) fun b o e => Heap.get?_push_of_some _ e, turn_list a _, ⟨_, Heap.get?_push_size _ rfl, rfl, rfl⟩, fun b hb => ?_, q⟩
    have e : b = s1.heap.objs.size := by simpa using hb
    subst e
    exact I1.fpOk (Nat.le_refl _) (I1.hok.fresh (Nat.le_refl _))
  · subst e
    cases r1
    obtain ⟨its, rv, p, hz⟩ := I1.tuple hq
    refine wpAny_pyIter_tuple (show s1.heap.IsTuple a its.toArray from p) ?_
    refine ⟨s1.heap.objs.size, [s1.heap.objs.size], _, _, H1, rfl, I1.kept (t' := s1.toks) fun b o e => Heap.get?_push_of_some _ e, turn_tuple a _, ⟨_, Heap.get?_push_size _ rfl, rfl, rfl⟩, fun b hb => ?_, q⟩
    have e : b = s1.heap.objs.size := by simpa using hb
    subst e
    exact I1.fpOk (Nat.le_refl _) (I1.hok.fresh (Nat.le_refl _))
section
variable {K : PySem.W.Frag} {σ : L2.St} {H : Hp} {te : TE} {R : It → Hp → Prop} {a : Addr} {xs : List V}
theorem it_seq (h : te σ H fun x H1 => (∃ a, x = .ref a ∧ (∃ xs, SqL K H1 a xs) ∧ R (Itl K a) H1) ∨ ∃ a, x = .ref a ∧ (∃ xs, SqT K H1 a xs) ∧ R (Itt K a) H1) : iSeq K te σ H R := h
theorem seq_l {P P' : Addr → Prop} (h : H a = some (.lst xs)) (q : P a) : (∃ b, V.ref a = .ref b ∧ (∃ xs, SqL K H b xs) ∧ P b) ∨ ∃ b, V.ref a = .ref b ∧ (∃ xs, SqT K H b xs) ∧ P' b := .inl ⟨a, rfl, ⟨xs, SqL.of h⟩, q⟩
theorem seq_t {P P' : Addr → Prop} (h : H a = some (.tup xs)) (q : P' a) : (∃ b, V.ref a = .ref b ∧ (∃ xs, SqL K H b xs) ∧ P b) ∨ ∃ b, V.ref a = .ref b ∧ (∃ xs, SqT K H b xs) ∧ P' b := .inr ⟨a, rfl, ⟨xs, SqT.of h⟩, q⟩
end
inductive RSortI : List V → Hp → VK → Prop
  | l {p : Addr} {ns : List Int} {H : Hp} {Q : VK} : H p = some (.lst (ns.map V.int)) → ns.length < 64 → (∀ ns' : List Int, ns'.Perm ns → ns'.Pairwise (· ≤ ·) → AlD (.lst (ns'.map V.int)) H Q) → RSortI [.ref p] H Q
  | d {p : Addr} {kvs : List (Key × V)} {ks : List Int} {H : Hp} {Q : VK} : H p = some (.dK kvs) → kvs.map (·.1) = ks.map Sum.inl → ks.length < 64 → (∀ ys : List Int, ys.Perm ks → ys.Pairwise (· ≤ ·) → AlD (.lst (ys.map V.int)) H Q) → RSortI [.ref p] H Q
theorem call_sortI {X : Cx} (hc : X.calm = true) : CallR X (.builtin "sorted") RSortI := by
  intro pins s σ H xs us Q I r h
  cases h with
  | l e l q => exact cr_sorted pins s σ H _ us Q I r ⟨_, _, rfl, SqL.of e, l, fun ns' p h1 h2 h3 => q ns' h1 h2 p h3⟩
  | d e m l q => exact call_sortedDI hc pins s σ H _ us Q I r ⟨_, _, _, rfl, .inl e, m, l, fun ys p h1 h2 h3 => q ys h1 h2 p h3⟩
/-- a statement that nothing reaches -/
theorem ps_never {X : Cx} {st : Stmt} : PS X st (fun _ _ _ => False) := ⟨fun _ _ _ _ _ _ h => h.elim⟩
inductive Sq3 (R : Cells) (D : Hp) (p : Addr) (xs : List V) : Prop
  | l (e : D p = some (.lst xs))
  | t (e : D p = some (.tup xs))
  | c (m : ((p, HO.lst xs) : Addr × HO) ∈ R)
theorem Sq3.mono {R : Cells} {D D' : Hp} {p : Addr} {xs : List V} (s : Sq3 R D p xs) (x : Ex D D') : Sq3 R D' p xs := by
  cases s with
  | l e => exact .l (x _ _ e)
  | t e => exact .t (x _ _ e)
  | c m => exact .c m
theorem Sq3.sub {R R' : Cells} {D : Hp} {p : Addr} {xs : List V} (s : Sq3 R D p xs) (h : ∀ q ∈ R, q ∈ R') : Sq3 R' D p xs := by
  cases s with
  | l e => exact .l e
  | t e => exact .t e
  | c m => exact .c (h _ m)
theorem Sq3.len {H D : Hp} {R : Cells} {p : Addr} {xs : List V} {Q : VK} (hi : HI H R D) (s : Sq3 R D p xs) (q : Q (.int xs.length) H) : RLen [.ref p] H Q := by
  cases s with
  | l e => exact .lst (hi.dat e) q
  | t e => exact .tup (hi.dat e) q
  | c m => exact .lst (hi.get m) q
theorem Sq3.list {H D : Hp} {R : Cells} {p : Addr} {xs : List V} {Q : VK} (hi : HI H R D) (s : Sq3 R D p xs) (q : AlD (.lst xs) H Q) : RListO [.ref p] H Q := by
  cases s with
  | l e => exact .l (hi.dat e) q
  | t e => exact .t (hi.dat e) q
  | c m => exact .l (hi.get m) q
theorem Sq3.isi {K : PySem.W.Frag} {H D : Hp} {R : Cells} {p T : Addr} {xs : List V} {Q : VK} (hi : HI H R D) (s : Sq3 R D p xs) (e : H T = some (.tup [.ty "list", .ty "tuple"])) (q : Q (.bl true) H) : RIsiT K [.ref p, .ref T] H Q := by
  have hs : ∀ n ∈ (["list", "tuple"] : List String), n ∈ six := by decide +kernel
  cases s with
  | l e1 => exact .ty (k := .lst) (ns := ["list", "tuple"]) (.lst (hi.dat e1)) e hs q
  | t e1 => exact .ty (k := .tup) (ns := ["list", "tuple"]) (.tup (hi.dat e1)) e hs q
  | c m => exact .ty (k := .lst) (ns := ["list", "tuple"]) (.lst (hi.get m)) e hs q
section
variable {K : PySem.W.Frag} {g : TG} {tb : TS} {D : Ends} {σ : L2.St} {H D0 : Hp} {R0 : Cells} {tt : TT} {te : TE} {vs : List Nat} {Q : VK} {a : Addr} {xs : List V}
theorem lc_seq (s : Sq3 R0 D0 a xs) (I : Nat → List V → Cells → Hp → Prop) (hi : HI H R0 D0) (h0 : I 0 [] R0 D0) (hl : ∀ i acc R Dd, I i acc R Dd → (∀ q ∈ R0, q ∈ R) ∧ Ex D0 Dd)
    (hs : ∀ L i acc x R Dd H, xs[i]? = some x → HI H ((L, .lst acc) :: R) Dd → I i acc R Dd → acc.length ≤ i → g x (wipe σ vs) H fun σ2 H2 => wipe σ2 vs = wipe σ vs ∧ tt σ2 H2 fun b H3 => if b = true then te σ2 H3 (LE L I (i + 1)) else PW' L I (i + 1) H3)
    (hd : ∀ L acc R Dd H, HI H ((L, .lst acc) :: R) Dd → I xs.length acc R Dd → acc.length ≤ xs.length → Q (.ref L) H) :
    (∃ b, V.ref a = .ref b ∧ (∃ xs, SqL K H b xs) ∧ LcK (Itl K b) g tt te vs σ H Q) ∨ ∃ b, V.ref a = .ref b ∧ (∃ xs, SqT K H b xs) ∧ LcK (Itt K b) g tt te vs σ H Q := by
  cases s with
  | l e => exact .inl ⟨a, rfl, ⟨xs, SqL.of (hi.dat e)⟩, lc_lst I hi h0 (fun i acc R Dd p => (hl i acc R Dd p).2 _ _ e) hs hd⟩
  | t e => exact .inr ⟨a, rfl, ⟨xs, SqT.of (hi.dat e)⟩, lc_tup I hi h0 (fun i acc R Dd p => (hl i acc R Dd p).2 _ _ e) hs hd⟩
  | c m => exact .inl ⟨a, rfl, ⟨xs, SqL.of (hi.get m)⟩, lc_hi walk_list I hi h0 (fun i acc R Dd H _ q p => SqL.of (q.get ((hl i acc R Dd p).1 _ m))) (fun L i acc x R Dd H H' hn a b c y => by
      obtain ⟨rfl, y⟩ := y
      exact hs L i acc x R Dd H' y a b c) hd⟩
end
inductive RDictO (K : PySem.W.Frag) : List V → Hp → VK → Prop
  | p {a : Addr} {ps : List Addr} {kvs : List (Key × V)} {H : Hp} {Q : VK} : H a = some (.lst (ps.map V.ref)) → Paired (fun p kv => H p = some (.tup [kV kv.1, kv.2])) ps kvs → AlD (.dK (mergeK [] kvs)) H Q → RDictO K [.ref a] H Q
  | d {a : Addr} {kvs : List (Key × V)} {H : Hp} {Q : VK} : H a = some (.dK kvs) → AlD (.dK kvs) H Q → RDictO K [.ref a] H Q
inductive RDictM (K : PySem.W.Frag) : List V → Hp → VK → Prop
  | d {a : Addr} {kvs : List (Key × V)} {H : Hp} {Q : VK} : H a = some (.dK kvs) → AlM (.dK kvs) H Q → RDictM K [.ref a] H Q
theorem paired_mono {α β : Type} {r s : α → β → Prop} (h : ∀ a b, r a b → s a b) : ∀ {xs : List α} {ys : List β}, Paired r xs ys → Paired s xs ys
  | _, _, .nil => .nil
  | _, _, .cons a l => .cons (h _ _ a) (paired_mono h l)
theorem call_dictO {X : Cx} (hc : X.calm = true) : CallR X (.type "dict") (RDictO X.K) := by
  intro pins s σ H xs us Q I r h
  cases h with
  | p e pr q => exact call_dictP hc pins s σ H _ us Q I r ⟨_, _, _, rfl, SqL.of e, paired_mono (fun _ _ h => SqT.of h) pr, q⟩
  | d e q => exact call_dictD pins s σ H _ us Q I r ⟨_, _, rfl, .inl e, q⟩
theorem call_dictOM {X : Cx} (hc : X.calm = true) : CallR X (.type "dict") (RDictM X.K) := by
  intro pins s σ H xs us Q I r h
  cases h with
  | d e q => exact call_dictD pins s σ H _ us Q I r ⟨_, _, rfl, .inl e, q⟩
/-- a field read within a comprehension -/
theorem pe_fldC {X : Cx} {K : PySem.W.Frag} {e : Expr} {ta : TE} {f : Str} {pos : Pos} (he : PE X e ta) (hb : attributeBase e f X.env (eval e X.env) = eval e X.env) (hK : X.K = K) : PE X (.Attribute e f pos) (tFld K ta f) := by
  subst hK
  exact pe_fld he hb
theorem ip_mk {g : Int → Int → Int} {i j : Int} {H : Hp} {N : V → Hp → Prop} (h : N (.int (g i j)) H) : ipI g (.int i) (.int j) H N := ⟨i, j, rfl, rfl, h⟩
/-- t[lo:hi] of a tuple, not the whole of it -/
inductive RSlTu : V → Option Int → Option Int → Hp → VK → Prop
  | tup {p : Addr} {xs : List V} {lo hi : Option Int} {H : Hp} {Q : VK} : H p = some (.tup xs) → ¬ (HT.sIx xs.length 0 lo = 0 ∧ HT.sIx xs.length xs.length hi = xs.length) → AlD (.tup (cutV xs lo hi)) H Q → RSlTu (.ref p) lo hi H Q
theorem sl_Tu {X : Cx} : SlR X (RSlTu) := by
  intro pins s σ H x v lo hi vl vu sl Q I rx hs h1 h2 h
  cases h with
  | tup hl hw q => exact sl_tup pins s σ H _ v _ _ vl vu sl Q I rx hs h1 h2 ⟨_, _, rfl, SqT.of hl, hw, q⟩
end Wk
set_option maxRecDepth 100000
set_option maxHeartbeats 4000000
namespace Wk
open PySem PySem.Spec PyProof.Rows L2
/-- a value that is equal to itself by a look -/
def Sf (v : V) : Prop := flatB v = true ∨ ∃ a, v = .ref a
theorem Sf.ref (a : Addr) : Sf (.ref a) := .inr ⟨a, rfl⟩
theorem sf_at {A : Around} {s : Shared} {v : V} {u w : Value} (h : Sf v) (r : RelV v u) (r2 : RelV v w) : SeqAt.EqAt A s u w true := by
  rcases h with h | ⟨a, rfl⟩
  · exact eqAt_same r r2 h
  · cases (show u = Value.ref a from r)
    cases (show w = Value.ref a from r2)
    exact SeqAt.EqAt.same _
theorem sf_items {A : Around} {s : Shared} {xs : List V} (h : ∀ v ∈ xs, Sf v) : ∀ {us ws : List Value}, Vals xs us → Vals xs ws → ∀ j (h1 : j < us.length) (h2 : j < ws.length), SeqAt.EqAt A s us[j] ws[j] true := by
  induction xs with
  | nil =>
    intro us ws r1 r2 j h1 h2
    cases r1
    exact absurd h1 (Nat.not_lt_zero j)
  | cons x r ih =>
    intro us ws r1 r2 j h1 h2
    cases r1 with
    | cons a1 b1 =>
      cases r2 with
      | cons a2 b2 =>
        cases j with
        | zero => exact sf_at (h x (List.mem_cons_self ..)) a1 a2
        | succ j => exact ih (fun v hv => h v (List.mem_cons_of_mem _ hv)) b1 b2 j (Nat.lt_of_succ_lt_succ h1) (Nat.lt_of_succ_lt_succ h2)
inductive REqI (neg : Bool) : V → V → Hp → VK → Prop
  | b {x y : V} {H : Hp} {Q : VK} : REq neg x y H Q → REqI neg x y H Q
  | same {p q : Addr} {xs : List V} {H : Hp} {Q : VK} : H p = some (.lst xs) → H q = some (.lst xs) → (∀ v ∈ xs, Sf v) → Q (.bl (!neg)) H → REqI neg (.ref p) (.ref q) H Q
  | len {p q : Addr} {xs ys : List V} {H : Hp} {Q : VK} : H p = some (.lst xs) → H q = some (.lst ys) → xs.length ≠ ys.length → Q (.bl neg) H → REqI neg (.ref p) (.ref q) H Q
section
variable {X : Cx}
theorem op_neI (hu : X.A.units + 64 < cLine) : OpR X (compareOp .NotEq) (REqI true) := by
  intro pins s σ H x y v u Q I rx ry h
  have hu0 : X.A.units < cLine := by omega
  cases h with
  | b q => exact op_neU hu pins s σ H _ _ v u Q I rx ry q
  | @same p q xs _ _ h1 h2 hs q =>
    obtain rfl : v = Value.ref p := rx
    obtain rfl : u = Value.ref _ := ry
    obtain ⟨us, r1, p1, _⟩ := I.list (SqL.of h1)
    obtain ⟨ws, r2, p2, _⟩ := I.list (SqL.of h2)
    have hsz : us.toArray.size = ws.toArray.size := by
      rw [List.size_toArray, List.size_toArray, ← r1.length, ← r2.length]
    refine SeqAt.RcNeAt.lists (e := fun _ => true) p1.isList p2.isList hsz hu0 (fun j h1 h2 => ?_) X.prog X.w _ _ ?_
    · have k := sf_items (A := X.A.in1) (s := s) hs r1 r2 j (by simpa using h1) (by simpa using h2)
      simpa using k
    · rw [show ((List.range us.toArray.size).all fun _ => true) = true from List.all_eq_true.mpr fun _ _ => rfl]
      exact ⟨.bl false, H, I, rfl, q⟩
  | @len p q xs ys _ _ h1 h2 hn q =>
    obtain rfl : v = Value.ref p := rx
    obtain rfl : u = Value.ref _ := ry
    obtain ⟨us, r1, p1, _⟩ := I.list (SqL.of h1)
    obtain ⟨ws, r2, p2, _⟩ := I.list (SqL.of h2)
    refine SeqAt.RcNeAt.lists_lengths p1.isList p2.isList (by
      rw [List.size_toArray, List.size_toArray, ← r1.length, ← r2.length]
      exact bne_iff_ne.mpr hn) hu0 X.prog X.w _ _ ⟨.bl true, H, I, rfl, q⟩
end
theorem paired_get {α β : Type} {r : α → β → Prop} : ∀ {xs : List α} {ys : List β} {i : Nat} {x : α}, Paired r xs ys → xs[i]? = some x → ∃ y, ys[i]? = some y ∧ r x y
  | _, _, _, _, .nil, e => by simp at e
  | _, _, 0, _, .cons h _, e => by
    simp at e
    subst e
    exact ⟨_, rfl, h⟩
  | _, _, i + 1, _, .cons _ l, e => by
    obtain ⟨y, a, b⟩ := paired_get (i := i) l (by simpa using e)
    exact ⟨y, by simpa using a, b⟩
inductive RGetL : V → V → Hp → VK → Prop
  | l {p : Addr} {xs : List V} {i : Int} {v : V} {H : Hp} {Q : VK} : H p = some (.lst xs) → 0 ≤ i → xs[i.toNat]? = some v → Q v H → RGetL (.ref p) (.int i) H Q
theorem st_augS {to ti te : TE} {tget : V → V → Hp → VK → Prop} {tip : TIp} {tset : TSet} {D : Ends} {σ : L2.St} {H : Hp} (h : to σ H fun o H1 => ti σ H1 fun i H2 => tget o i H2 fun x H3 => te σ H3 fun y H4 => tip x y H4 fun z H5 => tset o i z H5 fun H6 => D.nx σ H6) : tAugS to ti te tget tip tset D σ H := h
theorem sm_kv {n k : Nat} : ∀ {ds : List (PyData × PyData)}, (∀ d ∈ ds, Sm d.1 n k ∧ Sm d.2 n k) → PyData.showableKv ds = true ∧ (((PyData.shownKv ds).map (·.length)).sum ≤ (2 * n + 2) * ds.length ∧ (PyData.shownKv ds).length = ds.length) ∧ PyData.depthKv ds ≤ k
  | [], _ => ⟨rfl, ⟨Nat.zero_le _, rfl⟩, Nat.zero_le _⟩
  | (x, y) :: ds, h => by
    obtain ⟨a, ⟨b, c⟩, e⟩ := sm_kv (ds := ds) fun z hz => h z (List.mem_cons_of_mem _ hz)
    obtain ⟨⟨a1, b1, e1⟩, ⟨a2, b2, e2⟩⟩ := h (x, y) (List.mem_cons_self ..)
    dsimp only at a1 b1 e1 a2 b2 e2
    refine ⟨?_, ⟨?_, ?_⟩, ?_⟩
    · simp only [PyData.showableKv, a1, a2, a, Bool.and_self]
    · simp only [PyData.shownKv, List.map_cons, List.sum_cons, List.length_cons, Nat.mul_succ]
      rw [len_app, len_app, show (": " : Str).length = 2 from rfl]
      omega
    · simp only [PyData.shownKv, List.length_cons, c]
    · simp only [PyData.depthKv]
      omega
theorem Sm.dict {n k : Nat} {ds : List (PyData × PyData)} (h : ∀ d ∈ ds, Sm d.1 n k ∧ Sm d.2 n k) : Sm (.dict ds) ((2 * n + 2) * ds.length + 2 * ds.length + 3) (k + 1) := by
  obtain ⟨a, ⟨b, c⟩, e⟩ := sm_kv h
  refine ⟨by simpa only [PyData.showable] using a, ?_, by simp only [PyData.depth]; omega⟩
  have jl := PySem.dictText_len_le (PyData.shownKv ds)
  rw [c] at jl
  have e4 : (PyData.dict ds).shown = PySem.dictText (PyData.shownKv ds) := by simp only [PyData.shown]
  rw [e4]
  omega
theorem cutV_from {xs : List V} {k : Nat} : cutV xs (some (k : Int)) none = xs.drop k := by
  unfold cutV
  rw [show HT.sIx xs.length 0 (some (k : Int)) = min k xs.length from HT.sIx_nat _ _ _, HT.sIx_none, List.take_of_length_le (by rw [List.length_drop]; exact Nat.le_refl _)]
  by_cases h : k ≤ xs.length
  · rw [Nat.min_eq_left h]
  · rw [Nat.min_eq_right (by omega), List.drop_of_length_le (Nat.le_refl _), List.drop_of_length_le (by omega)]
def RvP (K : PySem.W.Frag) (x : V) (H : Hp) (Q : VK) : Prop := ∃ a xs, x = .ref a ∧ SqL K H a xs ∧ AlD (.lst xs.reverse) H Q
theorem se_revL {K : PySem.W.Frag} {te : TE} {σ : L2.St} {H : Hp} {Q : VK} (h : te σ H fun x H1 => RvP K x H1 Q) : tRevL K te σ H Q := h
theorem rv_mk {K : PySem.W.Frag} {H : Hp} {Q : VK} {a : Addr} {xs : List V} (e : H a = some (.lst xs)) (q : AlD (.lst xs.reverse) H Q) : RvP K (.ref a) H Q := ⟨a, xs, rfl, SqL.of e, q⟩
end Wk
set_option maxRecDepth 100000
set_option maxHeartbeats 4000000
namespace Wk
open PySem PySem.Spec PyProof.Rows L2
theorem Ty.mono {K : PySem.W.Frag} {H H' : Hp} {v : V} {t : Value} (h : Ty K H v t) (x : Ex H H') : Ty K H' v t := by
  cases h with
  | b h hn e => exact .b (h.mono x) hn e
  | o h => exact .o (h.mono x)
def TyC (K : PySem.W.Frag) (R : Cells) (D : Hp) (v : V) (t : Value) : Prop := Ty K D v t ∨ (∃ p xs, v = .ref p ∧ ((p, HO.lst xs) : Addr × HO) ∈ R ∧ t = .type "list") ∨ ∃ p kvs, v = .ref p ∧ ((p, HO.dK kvs) : Addr × HO) ∈ R ∧ t = .type "dict"
section
variable {K : PySem.W.Frag} {R R' : Cells} {D D' H : Hp} {v : V} {t : Value} {c : Addr × HO}
theorem TyC.mono (h : TyC K R D v t) (x : Ex D D') : TyC K R D' v t := by
  rcases h with h | h
  · exact .inl (h.mono x)
  · exact .inr h
theorem TyC.sub (h : TyC K R D v t) (s : ∀ q ∈ R, q ∈ R') : TyC K R' D v t := by
  rcases h with h | ⟨p, o, e, m, l⟩ | ⟨p, o, e, m, l⟩
  · exact .inl h
  · exact .inr (.inl ⟨p, o, e, s _ m, l⟩)
  · exact .inr (.inr ⟨p, o, e, s _ m, l⟩)
theorem TyC.cell (h : TyC K R D v t) : TyC K (c :: R) D v t := h.sub fun q hq => List.mem_cons_of_mem _ hq
theorem TyC.ty (h : TyC K R D v t) (hI : HI H R D) : Ty K H v t := by
  rcases h with h | ⟨p, xs, rfl, m, rfl⟩ | ⟨p, kvs, rfl, m, rfl⟩
  · exact h.mono hI.sub
  · exact .b (.lst (hI.get m)) (by decide +kernel) rfl
  · exact .b (.dict (hI.get m)) (by decide +kernel) rfl
end
end Wk
set_option maxRecDepth 100000
set_option maxHeartbeats 4000000
set_option maxRecDepth 100000
set_option maxHeartbeats 4000000
namespace Wk
open PySem PySem.Spec PyProof.Rows L2
/-- the list at a as it stands at each turn, each item in a new pair, counted from k -/
def IteF (K : PySem.W.Frag) (a : Addr) (k : Int) : It :=
  ⟨fun i H => ∃ (xs : List V) (x : V), SqL K H a xs ∧ xs[i]? = some x, fun i H v H' => ∃ T x, v = .ref T ∧ H T = none ∧ H' = upd H T (.tup [.int (k + (i : Nat)), x]) ∧ ∀ xs, SqL K H a xs → xs[i]? = some x, fun i H => ∃ xs : List V, SqL K H a xs ∧ xs.length = i⟩
def iEnumF (K : PySem.W.Frag) (ta tk : TA) : TI := fun σ H R => ta σ H fun vs H1 => tk σ H1 fun zs H2 => ∃ a xs k, vs = [.ref a] ∧ zs = [.int k] ∧ (-1000 ≤ k ∧ k ≤ 1000) ∧ SqL K H2 a xs ∧ R (IteF K a k) H2
section
variable {K : PySem.W.Frag} {σ : L2.St} {H D0 : Hp} {ta tk tl : TA} {te : TE} {R : It → Hp → Prop} {R0 : Cells} {a b : Addr} {xs ys : List V} {g : TG} {tb : TS} {D : Ends} {n : Nat}
theorem it_enumF (h : ta σ H fun vs H1 => tk σ H1 fun zs H2 => ∃ a xs k, vs = [.ref a] ∧ zs = [.int k] ∧ (-1000 ≤ k ∧ k ≤ 1000) ∧ SqL K H2 a xs ∧ R (IteF K a k) H2) : iEnumF K ta tk σ H R := h
theorem enumF_mk {k : Int} {P : Addr → Int → Prop} (h1 : H a = some (.lst xs)) (hk : -1000 ≤ k ∧ k ≤ 1000) (q : P a k) : ∃ a' xs k', [V.ref a] = [.ref a'] ∧ [V.int k] = [.int k'] ∧ (-1000 ≤ k' ∧ k' ≤ 1000) ∧ SqL K H a' xs ∧ P a' k' := ⟨a, xs, k, rfl, rfl, hk, SqL.of h1, q⟩
theorem it_rng3 (h : ta σ H fun vs H1 => ∃ (i j c : Int) (n : Nat), vs = [.int i, .int j, .int c] ∧ RgC i j c n ∧ R (Itc i c n) H1) : iRng3 ta σ H R := h
theorem rng3_dn {i j : Int} {P : Int → Int → Nat → Prop} (h : (-(2 ^ 62) ≤ i ∧ i < 2 ^ 62) ∧ -(2 ^ 62) ≤ j ∧ j < 2 ^ 62) (q : P i (-1) (i - j).toNat) : ∃ (i' j' c : Int) (n : Nat), [V.int i, V.int j, V.int (-1)] = [.int i', .int j', .int c] ∧ RgC i' j' c n ∧ P i' c n :=
  ⟨i, j, -1, _, rfl, RgC.neg h.1.1 h.1.2 h.2.1 h.2.2, q⟩
end
end Wk
set_option maxRecDepth 100000
set_option maxHeartbeats 4000000
namespace Wk
open PySem PySem.Spec PyProof.Rows L2
section
variable {J : It} {n : Nat} {g : TG} {tb : TS} {σ : L2.St} {H D0 : Hp} {R0 : Cells} {tt : TT} {te : TE} {vs : List Nat} {Q : VK} {d : Addr} {o : Obj} {kvs : List (Key × V)} {td : TE} {R : It → Hp → Prop}
theorem it_items (h : td σ H fun x H1 => ∃ d o kvs, x = .ref d ∧ H1 d = some (.frz o (.dK kvs)) ∧ R (Iti d o kvs) H1) : iItems td σ H R := h
end
end Wk
set_option maxRecDepth 100000
set_option maxHeartbeats 4000000
namespace Wk
open PySem PySem.Spec PyProof.Rows L2
/-- a short text is shown -/
def ShS (K : PySem.W.Frag) (H : Hp) (v : V) (n k : Nat) : Prop := ∃ t m, Shw K H v t m ∧ t.length ≤ n ∧ m ≤ k
def ShLs (K : PySem.W.Frag) (H : Hp) (vs : List V) (n k : Nat) : Prop := ∃ ts m, ShwL K H vs ts m ∧ ts.length = vs.length ∧ (∀ t ∈ ts, t.length ≤ n) ∧ m ≤ k
section
variable {K : PySem.W.Frag} {H H' D D' : Hp} {v : V} {n k n' k' : Nat}
theorem ShS.mono (h : ShS K H v n k) (x : Ex H H') : ShS K H' v n k := let ⟨t, m, a, b, c⟩ := h; ⟨t, m, a.mono x, b, c⟩
theorem ShLs.nil : ShLs K H [] n k := ⟨[], 0, .nil, rfl, all_n, Nat.zero_le _⟩
theorem ShLs.cons {vs : List V} (h : ShS K H v n k) (l : ShLs K H vs n k) : ShLs K H (v :: vs) n k := by
  obtain ⟨t, m, a, b, c⟩ := h
  obtain ⟨ts, m', d, e, f, g⟩ := l
  exact ⟨t :: ts, _, .cons a d, by rw [List.length_cons, e]; rfl, all_c b f, by omega⟩
theorem ShLs.of : ∀ {vs : List V}, (∀ v ∈ vs, ShS K H v n k) → ShLs K H vs n k
  | [], _ => .nil
  | v :: vs, h => .cons (h v (List.mem_cons_self ..)) (ShLs.of fun u hu => h u (List.mem_cons_of_mem _ hu))
theorem len_sum {ts : List Str} {n : Nat} (h : ∀ t ∈ ts, t.length ≤ n) : (ts.map (·.length)).sum ≤ n * ts.length := by
  induction ts with
  | nil => exact Nat.zero_le _
  | cons t ts ih =>
    have h1 := h t (List.mem_cons_self ..)
    have h2 := ih fun u hu => h u (List.mem_cons_of_mem _ hu)
    simp only [List.map_cons, List.sum_cons, List.length_cons, Nat.mul_succ]
    omega
theorem tupleText_len (ts : List Str) : (tupleText ts).length ≤ (ts.map (·.length)).sum + 2 * ts.length + 3 := by
  have jl := join_len (Str.ofString ", ") ts
  have e1 : (Str.ofString ", ").length = 2 := rfl
  have e2 : (Str.ofString "(").length = 1 := rfl
  have e3 : (Str.ofString ")").length = 1 := rfl
  have e4 : (Str.ofString ",)").length = 2 := rfl
  rw [e1] at jl
  match ts, jl with
  | [], jl => exact Nat.le_trans (show (tupleText []).length ≤ 3 by decide +kernel) (by omega)
  | [x], jl =>
    show ((Str.ofString "(") ++ x ++ (Str.ofString ",)")).length ≤ _
    rw [len_app, len_app, e2, e4]
    simp only [List.length_cons, List.length_nil, List.map_cons, List.map_nil, List.sum_cons, List.sum_nil]
    omega
  | x :: y :: r, jl =>
    show ((Str.ofString "(") ++ Str.join (Str.ofString ", ") (x :: y :: r) ++ (Str.ofString ")")).length ≤ _
    rw [len_app, len_app, e2, e3]
    omega
theorem dictText_len (ts : List Str) : (dictText ts).length ≤ (ts.map (·.length)).sum + 2 * ts.length + 3 := by
  have jl := join_len (Str.ofString ", ") ts
  have e1 : (Str.ofString ", ").length = 2 := rfl
  have e2 : (Str.ofString "{").length = 1 := rfl
  have e3 : (Str.ofString "}").length = 1 := rfl
  rw [e1] at jl
  show ((Str.ofString "{") ++ Str.join (Str.ofString ", ") ts ++ (Str.ofString "}")).length ≤ _
  rw [len_app, len_app, e2, e3]
  omega
theorem ShS.non : ShS K H .non 4 0 := ⟨_, _, .non, by decide +kernel, Nat.le_refl _⟩
theorem ShS.bl (b : Bool) : ShS K H (.bl b) 5 0 := by cases b <;> exact ⟨_, _, .bl _, by decide +kernel, Nat.le_refl _⟩
theorem ShS.int {i : Int} (h : i.natAbs < 10 ^ 30) : ShS K H (.int i) 31 0 := ⟨_, _, .int i (log2_small (by omega)), (tst h).1, Nat.le_refl _⟩
theorem ShS.str {z : Str} (h : Sg z) : ShS K H (.str z) (10 * z.length + 2) 0 := ⟨_, _, .str z, repr_len h, Nat.le_refl _⟩
theorem ShS.exc {a d C t1 : Addr} {z : Str} (e : H a = some (exq a C (some d) t1)) (e2 : H t1 = some (.tup [.str z])) (q : ExQ K C) (h : Sg z) (l : z.length ≤ 60) : ShS K H (.ref a) 800 1 := by
  refine ⟨_, _, .exc e e2 q, ?_, Nat.le_refl _⟩
  have h1 := q.hl
  have h2 := repr_len h
  rw [len_app, len_app, len_app]
  have e2 : (Str.ofString "(").length = 1 := rfl
  have e3 : (Str.ofString ")").length = 1 := rfl
  omega
theorem ShS.lst {a : Addr} {vs : List V} (e : H a = some (.lst vs)) (l : ShLs K H vs n k) : ShS K H (.ref a) (n * vs.length + 2 * vs.length + 3) (k + 1) := by
  obtain ⟨ts, m, a, b, c, d⟩ := l
  refine ⟨_, _, .lst e a, ?_, by omega⟩
  have h1 := len_sum c
  have h2 := PySem.listText_len_le ts
  rw [b] at h1 h2
  omega
theorem ShS.tup {a : Addr} {vs : List V} (e : H a = some (.tup vs)) (l : ShLs K H vs n k) : ShS K H (.ref a) (n * vs.length + 2 * vs.length + 3) (k + 1) := by
  obtain ⟨ts, m, a, b, c, d⟩ := l
  refine ⟨_, _, .tup e a, ?_, by omega⟩
  have h1 := len_sum c
  have h2 := tupleText_len ts
  rw [b] at h1 h2
  omega
/-- a small key -/
def SmK : Key → Prop
  | .inl i => i.natAbs < 10 ^ 30
  | .inr z => Sg z ∧ z.length ≤ 60
theorem SmK.kt {q : Key} (h : SmK q) : ∃ t, KT q t ∧ t.length ≤ 700 := by
  cases q with
  | inl i => exact ⟨_, .int i (log2_small (by have : i.natAbs < 10 ^ 30 := h; omega)), Nat.le_trans (tst (i := i) h).1 (by decide)⟩
  | inr z => exact ⟨_, .str z, by have := repr_len h.1; have := h.2; omega⟩
theorem shwK_of : ∀ {kvs : List (Key × V)}, (∀ p ∈ kvs, SmK p.1 ∧ ShS K H p.2 n k) → ∃ ts m, ShwK K H kvs ts m ∧ ts.length = kvs.length ∧ (∀ t ∈ ts, t.length ≤ n + 702) ∧ m ≤ k
  | [], _ => ⟨[], 0, .nil, rfl, all_n, Nat.zero_le _⟩
  | (q, v) :: kvs, h => by
    obtain ⟨ts, m, a, b, c, d⟩ := shwK_of (kvs := kvs) fun p hp => h p (List.mem_cons_of_mem _ hp)
    obtain ⟨h1, t, m1, h2, h3, h4⟩ := h _ (List.mem_cons_self ..)
    obtain ⟨kt, h5, h6⟩ := h1.kt
    refine ⟨_ :: ts, _, .cons h5 h2 a, by rw [List.length_cons, b]; rfl, all_c ?_ c, by omega⟩
    rw [len_app, len_app]
    have e2 : (Str.ofString ": ").length = 2 := rfl
    omega
theorem ShS.dict {a : Addr} {kvs : List (Key × V)} (e : H a = some (.dK kvs)) (l : ∀ p ∈ kvs, SmK p.1 ∧ ShS K H p.2 n k) : ShS K H (.ref a) ((n + 702) * kvs.length + 2 * kvs.length + 3) (k + 1) := by
  obtain ⟨ts, m, a, b, c, d⟩ := shwK_of l
  refine ⟨_, _, .dict e a, ?_, by omega⟩
  have h1 := len_sum c
  have h2 := dictText_len ts
  rw [b] at h1 h2
  omega
/-- a flat small value -/
inductive Fl : V → Prop
  | non : Fl .non
  | bl (b : Bool) : Fl (.bl b)
  | int {i : Int} (h : i.natAbs < 10 ^ 30) : Fl (.int i)
  | str {z : Str} (h : Sg z) (l : z.length ≤ 60) : Fl (.str z)
/-- an odd cell: a list or a dict of at most m flat values -/
inductive OkO (m : Nat) : HO → Prop
  | lst {xs : List V} (h : ∀ x ∈ xs, Fl x) (l : xs.length ≤ m) : OkO m (.lst xs)
  | dict {kvs : List (Key × V)} (h : ∀ p ∈ kvs, SmK p.1 ∧ Fl p.2) (l : kvs.length ≤ m) : OkO m (.dK kvs)
theorem OkO.ld {m : Nat} {o : HO} (h : OkO m o) : LD o := by
  cases h with
  | lst a b => exact .inl ⟨_, rfl⟩
  | dict a b => exact .inr ⟨_, rfl⟩
/-- a thing that is data, or one of the odd cells; P of its type -/
inductive Odt (K : PySem.W.Frag) (P : Value → Prop) (as : List Addr) (D : Hp) : V → Prop
  | dat {v : V} {k : Knd} {t : Value} (kn : Kn K D v k) (ty : Ty K D v t) (p : P t) (s : ShS K D v 30000 20) (z : ∀ z, v = .str z → TxtOk z) (nl : k.is "list" = false) (nd : k.is "dict" = false) : Odt K P as D v
  | cell {a : Addr} (m : a ∈ as) : Odt K P as D (.ref a)
theorem Odt.mono {P : Value → Prop} {as : List Addr} (h : Odt K P as D v) (x : Ex D D') : Odt K P as D' v := by
  cases h with
  | dat kn ty p s z a b => exact .dat (kn.mono x) (ty.mono x) p (s.mono x) z a b
  | cell m => exact .cell m
theorem Odt.sub {P : Value → Prop} {as bs : List Addr} (h : Odt K P as D v) (x : ∀ a ∈ as, a ∈ bs) : Odt K P bs D v := by
  cases h with
  | dat kn ty p s z a b => exact .dat kn ty p s z a b
  | cell m => exact .cell (x _ m)
theorem Odt.imp {P P' : Value → Prop} {as : List Addr} (h : Odt K P as D v) (x : ∀ t, P t → P' t) : Odt K P' as D v := by
  cases h with
  | dat kn ty p s z a b => exact .dat kn ty (x _ p) s z a b
  | cell m => exact .cell m
section
variable {P : Value → Prop} {OC R : Cells} {m : Nat}
theorem mem_fst {OC : Cells} {a : Addr} (h : a ∈ OC.map (·.1)) : ∃ o, (a, o) ∈ OC := by
  obtain ⟨c, hc, rfl⟩ := List.mem_map.mp h
  exact ⟨c.2, hc⟩
theorem Odt.ty (h : Odt K P (OC.map (·.1)) D v) (ok : ∀ c ∈ OC, OkO m c.2) (s : ∀ c ∈ OC, c ∈ R) (p1 : P (.type "list")) (p2 : P (.type "dict")) : ∃ t, TyC K R D v t ∧ P t := by
  cases h with
  | dat kn ty p s z a b => exact ⟨_, .inl ty, p⟩
  | cell hm =>
    obtain ⟨o, hc⟩ := mem_fst hm
    have hs := s _ hc
    have l : LD o := (ok _ hc).ld
    rcases l with ⟨xs, rfl⟩ | ⟨kvs, rfl⟩
    · exact ⟨_, .inr (.inl ⟨_, xs, rfl, hs, rfl⟩), p1⟩
    · exact ⟨_, .inr (.inr ⟨_, kvs, rfl, hs, rfl⟩), p2⟩
end
end
theorem HI.front {H D : Hp} {A B : Cells} {c : Addr × HO} (h : HI H (A ++ c :: B) D) : HI H (c :: (A ++ B)) D := h.perm List.perm_middle
theorem HI.up4 {H D : Hp} {R : Cells} {x y z u v : Addr × HO} (h : HI H (x :: y :: z :: u :: v :: R) D) : HI H (v :: x :: y :: z :: u :: R) D := HI.front (A := [x, y, z, u]) h
/-- one more item, one more key -/
theorem OkO.app {m : Nat} {xs : List V} {v : V} (h : OkO m (.lst xs)) (f : Fl v) : OkO (m + 1) (.lst (xs ++ [v])) := by
  cases h with
  | lst a b =>
    refine .lst (fun x hx => ?_) (by rw [List.length_append]; exact Nat.succ_le_succ b)
    rcases List.mem_append.mp hx with h | h
    · exact a x h
    · rw [List.mem_singleton.mp h]
      exact f
theorem OkO.put {m : Nat} {kvs : List (Key × V)} {q : Key} {v : V} (h : OkO m (.dK kvs)) (k : SmK q) (f : Fl v) : OkO (m + 1) (.dK (putK kvs q v)) := by
  cases h with
  | dict a b =>
    refine .dict (fun p hp => ?_) (Nat.le_trans (length_putK kvs q v) (Nat.succ_le_succ b))
    unfold putK at hp
    split at hp
    · obtain ⟨p0, h0, e⟩ := List.mem_map.mp hp
      by_cases g : p0.1 = q
      · rw [if_pos g] at e
        rw [← e]
        exact ⟨(a p0 h0).1, f⟩
      · rw [if_neg g] at e
        rw [← e]
        exact a p0 h0
    · rcases List.mem_append.mp hp with h | h
      · exact a p h
      · rw [List.mem_singleton.mp h]
        exact ⟨k, f⟩
/-- a display that stays a cell -/
def tDispM (trs : List (TE × TE)) : TE := tDisp trs
theorem se_dispM {σ : L2.St} {H : Hp} {Q : VK} {D : Hp} {R : Cells} {trs : List (TE × TE)} (hi : HI H R D) (h : ∀ p H1, HI H1 ((p, .dK []) :: R) D → tPairs trs σ H1 fun ps H2 => DispP p ps H2 Q) : tDispM trs σ H Q := fun p hp => h p _ (hi.new hp)
theorem disp_nowM {H : Hp} {Q : VK} {p : Addr} {ps : List (V × V)} {kvs : List (Key × V)} {R : Cells} {D : Hp} (hi : HI H ((p, .dK []) :: R) D) (e : keysOf ps = some kvs) (hl : kvs.length ≤ 15) (k : ∀ H', HI H' ((p, .dK (mergeK [] kvs)) :: R) D → Q (.ref p) H') : DispP p ps H Q :=
  ⟨hi.get (List.mem_cons_self ..), kvs, keysOf_ok e, hl, k _ (hi.set (u := .dK (mergeK [] kvs)))⟩
/-- two tuples that say the same: a word and an odd thing, or data -/
def TwoS (K : PySem.W.Frag) (P : Value → Prop) (as : List Addr) (D : Hp) (p1 p2 : Addr) : Prop := (∃ (w : Str) (v : V), D p1 = some (.tup [.str w, v]) ∧ D p2 = some (.tup [.str w, v]) ∧ Sg w ∧ w.length ≤ 60 ∧ Odt K P as D v) ∨
  ∃ t n, Shw K D (.ref p1) t n ∧ Shw K D (.ref p2) t n ∧ t.length ≤ 100000 ∧ n ≤ 40
section
variable {K : PySem.W.Frag} {H H' D D' : Hp} {P : Value → Prop} {OC R : Cells} {m : Nat} {p1 p2 : Addr} {as : List Addr}
theorem TwoS.mono (h : TwoS K P as D p1 p2) (x : Ex D D') : TwoS K P as D' p1 p2 := by
  rcases h with ⟨w, v, a, b, c, d, e⟩ | ⟨t, n, a, b, c, d⟩
  · exact .inl ⟨w, v, x _ _ a, x _ _ b, c, d, e.mono x⟩
  · exact .inr ⟨t, n, a.mono x, b.mono x, c, d⟩
end
/-- the list at pp, a cell or data -/
def PAt (R : Cells) (D : Hp) (pp : Addr) (xs : List V) : Prop := ((pp, HO.lst xs) : Addr × HO) ∈ R ∨ D pp = some (.lst xs)
theorem PAt.h {R : Cells} {D H : Hp} {pp : Addr} {xs : List V} (m : PAt R D pp xs) (hI : HI H R D) : H pp = some (.lst xs) := m.elim hI.get hI.dat
theorem st_par3 {i j l : Nat} {t : TA} {D : Ends} {σ : L2.St} {H : Hp} (h : t σ H fun vs H1 => ∃ u v w, vs = [u, v, w] ∧ D.nx (((σ.set i (some u)).set j (some v)).set l (some w)) H1) : tPar3 i j l t D σ H := h
theorem par3_mk {x y z : V} {P : V → V → V → Prop} (h : P x y z) : ∃ u v w, [x, y, z] = [u, v, w] ∧ P u v w := ⟨x, y, z, rfl, h⟩
end Wk
set_option maxRecDepth 100000
set_option maxHeartbeats 4000000
namespace Wk
open PySem PySem.Spec PyProof.Rows L2 PySem.SeqAt
open AutoSeq1 (wpAny_loadPart')
open MeetsSeq MeetsSeq2 MeetsSeq3 SeqRoads2
abbrev EqRel := V → Addr → Hp → (Bool → Hp → Prop) → Prop
def EqRun (X : Cx) (n : Nat) (r : EqRel) : Prop := ∀ (A : Around) (pins : List (Addr × Obj)) (s : Shared) (σ : L2.St) (H : Hp) (y : V) (a : Addr) (v : Value) (P : Bool → Hp → Prop), A.guards = some [] → A.frames = X.A.frames → Room n A → Inv X pins σ H s → RelV y v → r y a H P →
  wpAny (model X.prog X.w) A (eqBool v (.ref a)) (fun b s' => ∃ H', Inv X pins σ H' s' ∧ P b H') X.xe s
theorem EqRun.mono {X : Cx} {n m : Nat} {r : EqRel} (h : EqRun X n r) (l : n ≤ m) : EqRun X m r := fun A pins s σ H y a v P hg hf hr I rv q => h A pins s σ H y a v P hg hf (hr.mono l) I rv q
end Wk
set_option maxRecDepth 100000
set_option maxHeartbeats 4000000
namespace Wk
open PySem PySem.Spec PyProof.Rows L2
inductive RFmtO (C : Addr) (sp : Sp) : V → Hp → VK → Prop
  | b {x : V} {H : Hp} {Q : VK} : RFmt x H Q → RFmtO C sp x H Q
  | o {a dx : Addr} {fs : List (Str × V)} {H : Hp} {Q : VK} : H a = some (.ins C dx fs) → sp [.ref a] H (fun v H' => ∃ z, v = .str z ∧ Q (.str z) H') (fun _ _ _ => False) → RFmtO C sp (.ref a) H Q
def tFmtO (C : Addr) (sp : Sp) (te : TE) : TE := fun σ H Q => te σ H fun x H1 => RFmtO C sp x H1 Q
theorem se_fmtO {C : Addr} {sp : Sp} {te : TE} {σ : L2.St} {H : Hp} {Q : VK} (h : te σ H fun x H1 => RFmtO C sp x H1 Q) : tFmtO C sp te σ H Q := h
end Wk
set_option maxRecDepth 100000
set_option maxHeartbeats 4000000
namespace Wk
open PySem PySem.Spec PyProof.Rows L2
def rSortD : List V → Hp → VK → Prop := fun vs H Q => ∃ (a : Addr) (xs : List V) (β : Type) (bs : List β) (enc : β → PyData) (r : V → β → Prop), vs = [V.ref a] ∧ H a = some (.lst xs) ∧ Paired r xs bs ∧ (∀ x b, r x b → Rep H x (enc b)) ∧ PySem.W.AllAlike (bs.map enc) ∧ PySem.W.Sortable (bs.map enc) ∧ bs.length ≤ 1000000 ∧ (∀ b ∈ bs, (enc b).depth ≤ 50) ∧
  ∀ ys, Paired r ys (bs.mergeSort (PySem.W.dataLe false enc)) → AlD (.lst ys) H Q
theorem each_of {β : Type} {r : V → β → Prop} : ∀ {xs : List V} {bs : List β} {us : List Value}, Paired r xs bs → Vals xs us → PySem.W.EachIs (fun v b => ∃ x, RelV x v ∧ r x b) us bs
  | _, _, _, .nil, .nil => .nil
  | _, _, _, .cons h l, .cons r rs => .cons ⟨_, r, h⟩ (each_of l rs)
theorem each_back {β : Type} {r : V → β → Prop} : ∀ {us : List Value} {bs : List β}, PySem.W.EachIs (fun v b => ∃ x, RelV x v ∧ r x b) us bs → ∃ ys, Vals ys us ∧ Paired r ys bs
  | _, _, .nil => ⟨[], .nil, .nil⟩
  | _, _, .cons ⟨x, r, h⟩ l => let ⟨ys, a, b⟩ := each_back l; ⟨x :: ys, .cons r a, .cons h b⟩
theorem call_sortD {X : Cx} {k : Nat} (hr : Room k X.A) (hs : HasSys X.K) : CallR X (.builtin "sorted") rSortD := by
  intro pins s σ H vs us Q I r h
  obtain ⟨a, xs, β, bs, enc, r0, rfl, ea, pr, hrep, hal, hk, hlen, hdep, q⟩ := h
  obtain ⟨its, rv, hl, hz⟩ := I.list (SqL.of ea)
  rw [Vals.ref1 r]
  have e := each_of pr rv
  have er : PySem.W.EachIs (fun v b => ∃ as, Reads s.heap v (enc b) as) its bs := e.mono fun v b ⟨x, rx, h⟩ => by
    obtain ⟨as, h1, _⟩ := Rep.reads I hs (hrep x b h) rx
    exact ⟨as, h1⟩
  have hu : ∀ b, b ∈ bs → X.A.units + 2 + (enc b).depth < cLine := fun b hb => by
    have := hr.un
    have := hdep b hb
    omega
  refine PySem.W.sorted_data (R := fun v b => ∃ x, RelV x v ∧ r0 x b) (enc := enc) hl.isList e er hal hk (Nat.le_trans hlen (by rw [sizeLine_eq]; decide)) hu (fun out ol eo => ?_)
  · obtain ⟨ys, ry, py⟩ := each_back eo
    obtain ⟨ep, he'⟩ := PyProof.Rows.sortedAll_at s.heap its out.toArray
    have hl2 : ys.length ≤ sizeLine := by
      rw [ry.length, ol]
      exact Nat.le_trans hlen (by rw [sizeLine_eq]; decide)
    exact ⟨.ref _, upd H (s.heap.objs.size + 1) (.lst ys), I.laid (t' := s.toks) (fun _ _ => PyProof.Rows.sortedAll_old) (Nat.le_succ _) ⟨hl2, out, ep, ry, he'⟩, rfl, q ys py _ (I.hok.fresh (Nat.le_succ _))⟩
/-- by the head, a whole number -/
theorem head_le {β : Type} {enc : β → PyData} (k : β → Int) {r : β → List PyData} (h : ∀ b, enc b = .tuple (.int (k b) :: r b)) {bs : List β} : (bs.mergeSort (PySem.W.dataLe false enc)).Pairwise (fun a b => k a ≤ k b) := by
  refine (PySem.W.sort_pairwise (PySem.W.sortLe_total _ false _) bs).imp fun {a b} hab => ?_
  rcases Int.lt_or_le (k b) (k a) with hlt | hge
  · exfalso
    have h1 : PySem.W.dataLt (enc b) (enc a) = true := by
      rw [h, h, PySem.W.dataLt_tuple, PySem.W.dataLt_cons (by rfl)]
      have e : PyData.eqv (.int (k b)) (.int (k a)) = false := by
        simp [PyData.eqv]
        omega
      rw [e, if_neg (by decide), PySem.W.dataLt_int]
      exact decide_eq_true hlt
    have h2 : PySem.W.dataLe false enc a b = true := hab
    rw [PySem.W.dataLe_eq] at h2
    have h3 : (!PySem.W.dataLt (enc b) (enc a)) = true := h2
    rw [h1] at h3
    cases h3
  · exact hge
section
variable {K : PySem.W.Frag} {σ : L2.St} {H D : Hp} {R : Cells} {Q : VK} {ta tb te : TE}
theorem se_lrg (h : ta σ H fun x H1 => tb σ H1 fun y H2 => ∃ i j, x = .int i ∧ y = .int j ∧ RgOk i j ∧ AlD (.lst (rgV i j)) H2 Q) : tLstRg (tRg2 ta tb) σ H Q := h
theorem lrg_mk {i j : Int} (h : RgOk i j) (q : AlD (.lst (rgV i j)) H Q) : ∃ i' j', V.int i = .int i' ∧ V.int j = .int j' ∧ RgOk i' j' ∧ AlD (.lst (rgV i' j')) H Q := ⟨i, j, rfl, rfl, h, q⟩
end
end Wk
set_option maxRecDepth 100000
set_option maxHeartbeats 4000000
namespace Wk
open PySem PySem.Spec PyProof.Rows L2
def top (i : Nat) : Stmt := PySem.Challenge.pw_weekheads_k13_whole_told_in_any_order.main.body.getD i (.Pass ⟨0, 0, 0, 0⟩)
abbrev s_NoNumber_init : Stmt := inClass (top 3) 0
abbrev s_NoYear_init : Stmt := inClass (top 4) 0
abbrev s_NoWeek_init : Stmt := inClass (top 5) 0
abbrev s_NotThere_init : Stmt := inClass (top 6) 0
abbrev s_is_whole : Stmt := top 8
abbrev s_is_warmth : Stmt := top 13
abbrev s_is_cold : Stmt := top 14
abbrev s_is_pair : Stmt := top 15
abbrev s_Year_init : Stmt := inClass (top 16) 0
abbrev s_Year_len : Stmt := inClass (top 16) 1
abbrev s_Year_eq : Stmt := inClass (top 16) 2
abbrev s_Year_need_week : Stmt := inClass (top 16) 3
abbrev s_Year_pair : Stmt := inClass (top 16) 4
abbrev s_Year_tell : Stmt := inClass (top 16) 5
abbrev s_Year_back : Stmt := inClass (top 16) 6
abbrev s_Year_warmth : Stmt := inClass (top 16) 7
abbrev s_Year_cold : Stmt := inClass (top 16) 8
abbrev s_Year_warm_sum : Stmt := inClass (top 16) 9
abbrev s_Year_coldest : Stmt := inClass (top 16) 10
abbrev s_Year_told : Stmt := inClass (top 16) 11
abbrev s_Year_weeks : Stmt := inClass (top 16) 12
abbrev s_Year_copied : Stmt := inClass (top 16) 13
abbrev s_l_cell : Stmt := top 18
abbrev s_l_box : Stmt := top 19
abbrev s_l_take : Stmt := top 20
abbrev s_l_week : Stmt := top 21
abbrev s_l_weeks : Stmt := top 22
abbrev s_l_turned : Stmt := top 23
abbrev s_l_between : Stmt := top 24
abbrev s_l_all : Stmt := top 25
abbrev s_l_right : Stmt := top 26
abbrev s_law : Stmt := top 27
def d_NoNumber_init : He.DefD := ⟨("NoNumber", some "__init__"), "__init__", "NoNumber.__init__", defArgs s_NoNumber_init, defBody s_NoNumber_init, defScope s_NoNumber_init, [], []⟩
def d_NoYear_init : He.DefD := ⟨("NoYear", some "__init__"), "__init__", "NoYear.__init__", defArgs s_NoYear_init, defBody s_NoYear_init, defScope s_NoYear_init, [], []⟩
def d_NoWeek_init : He.DefD := ⟨("NoWeek", some "__init__"), "__init__", "NoWeek.__init__", defArgs s_NoWeek_init, defBody s_NoWeek_init, defScope s_NoWeek_init, [], []⟩
def d_NotThere_init : He.DefD := ⟨("NotThere", some "__init__"), "__init__", "NotThere.__init__", defArgs s_NotThere_init, defBody s_NotThere_init, defScope s_NotThere_init, [], []⟩
def d_is_whole : He.DefD := ⟨("is_whole", none), "is_whole", "is_whole", defArgs s_is_whole, defBody s_is_whole, defScope s_is_whole, [], []⟩
def d_is_warmth : He.DefD := ⟨("is_warmth", none), "is_warmth", "is_warmth", defArgs s_is_warmth, defBody s_is_warmth, defScope s_is_warmth, [], []⟩
def d_is_cold : He.DefD := ⟨("is_cold", none), "is_cold", "is_cold", defArgs s_is_cold, defBody s_is_cold, defScope s_is_cold, [], []⟩
def d_is_pair : He.DefD := ⟨("is_pair", none), "is_pair", "is_pair", defArgs s_is_pair, defBody s_is_pair, defScope s_is_pair, [], []⟩
def d_Year_init : He.DefD := ⟨("Year", some "__init__"), "__init__", "Year.__init__", defArgs s_Year_init, defBody s_Year_init, defScope s_Year_init, [], []⟩
def d_Year_len : He.DefD := ⟨("Year", some "__len__"), "__len__", "Year.__len__", defArgs s_Year_len, defBody s_Year_len, defScope s_Year_len, [], []⟩
def d_Year_eq : He.DefD := ⟨("Year", some "__eq__"), "__eq__", "Year.__eq__", defArgs s_Year_eq, defBody s_Year_eq, defScope s_Year_eq, [], []⟩
def d_Year_need_week : He.DefD := ⟨("Year", some "need_week"), "need_week", "Year.need_week", defArgs s_Year_need_week, defBody s_Year_need_week, defScope s_Year_need_week, [], []⟩
def d_Year_pair : He.DefD := ⟨("Year", some "pair"), "pair", "Year.pair", defArgs s_Year_pair, defBody s_Year_pair, defScope s_Year_pair, [], []⟩
def d_Year_tell : He.DefD := ⟨("Year", some "tell"), "tell", "Year.tell", defArgs s_Year_tell, defBody s_Year_tell, defScope s_Year_tell, [.non], []⟩
def d_Year_back : He.DefD := ⟨("Year", some "back"), "back", "Year.back", defArgs s_Year_back, defBody s_Year_back, defScope s_Year_back, [], []⟩
def d_Year_warmth : He.DefD := ⟨("Year", some "warmth"), "warmth", "Year.warmth", defArgs s_Year_warmth, defBody s_Year_warmth, defScope s_Year_warmth, [], []⟩
def d_Year_cold : He.DefD := ⟨("Year", some "cold"), "cold", "Year.cold", defArgs s_Year_cold, defBody s_Year_cold, defScope s_Year_cold, [], []⟩
def d_Year_warm_sum : He.DefD := ⟨("Year", some "warm_sum"), "warm_sum", "Year.warm_sum", defArgs s_Year_warm_sum, defBody s_Year_warm_sum, defScope s_Year_warm_sum, [], []⟩
def d_Year_coldest : He.DefD := ⟨("Year", some "coldest"), "coldest", "Year.coldest", defArgs s_Year_coldest, defBody s_Year_coldest, defScope s_Year_coldest, [], []⟩
def d_Year_told : He.DefD := ⟨("Year", some "told"), "told", "Year.told", defArgs s_Year_told, defBody s_Year_told, defScope s_Year_told, [], []⟩
def d_Year_weeks : He.DefD := ⟨("Year", some "weeks"), "weeks", "Year.weeks", defArgs s_Year_weeks, defBody s_Year_weeks, defScope s_Year_weeks, [], []⟩
def d_Year_copied : He.DefD := ⟨("Year", some "copied"), "copied", "Year.copied", defArgs s_Year_copied, defBody s_Year_copied, defScope s_Year_copied, [], []⟩
def d_l_cell : He.DefD := ⟨("_law_cell", none), "_law_cell", "_law_cell", defArgs s_l_cell, defBody s_l_cell, defScope s_l_cell, [], []⟩
def d_l_box : He.DefD := ⟨("_law_box", none), "_law_box", "_law_box", defArgs s_l_box, defBody s_l_box, defScope s_l_box, [], []⟩
def d_l_take : He.DefD := ⟨("_law_take", none), "_law_take", "_law_take", defArgs s_l_take, defBody s_l_take, defScope s_l_take, [], []⟩
def d_l_week : He.DefD := ⟨("_law_week", none), "_law_week", "_law_week", defArgs s_l_week, defBody s_l_week, defScope s_l_week, [], []⟩
def d_l_weeks : He.DefD := ⟨("_law_weeks", none), "_law_weeks", "_law_weeks", defArgs s_l_weeks, defBody s_l_weeks, defScope s_l_weeks, [], []⟩
def d_l_turned : He.DefD := ⟨("_law_turned", none), "_law_turned", "_law_turned", defArgs s_l_turned, defBody s_l_turned, defScope s_l_turned, [], []⟩
def d_l_between : He.DefD := ⟨("_law_between", none), "_law_between", "_law_between", defArgs s_l_between, defBody s_l_between, defScope s_l_between, [], []⟩
def d_l_all : He.DefD := ⟨("_law_all", none), "_law_all", "_law_all", defArgs s_l_all, defBody s_l_all, defScope s_l_all, [], []⟩
def d_l_right : He.DefD := ⟨("_law_right", none), "_law_right", "_law_right", defArgs s_l_right, defBody s_l_right, defScope s_l_right, [], []⟩
def d_law : He.DefD := ⟨("law", none), "law", "law", defArgs s_law, defBody s_law, defScope s_law, [], []⟩
def fn : List He.DefD := [d_NoNumber_init, d_NoYear_init, d_NoWeek_init, d_NotThere_init, d_is_whole, d_is_warmth, d_is_cold, d_is_pair, d_Year_init, d_Year_len, d_Year_eq, d_Year_need_week, d_Year_pair, d_Year_tell, d_Year_back, d_Year_warmth, d_Year_cold, d_Year_warm_sum, d_Year_coldest, d_Year_told, d_Year_weeks, d_Year_copied, d_l_cell, d_l_box, d_l_take, d_l_week, d_l_weeks, d_l_turned, d_l_between, d_l_all, d_l_right, d_law]
def cs : List Str := ["WeekError", "MissError", "NoNumber", "NoYear", "NoWeek", "NotThere", "Year"]
def fx0 : List WA.Fx := [fun K => (He.Fa.glo "is_whole").ok K, fun K => (He.Fa.glo "is_warmth").ok K, fun K => (He.Fa.glo "is_cold").ok K, fun K => (He.Fa.glo "is_pair").ok K, fun K => (He.Fa.glo "_law_cell").ok K, fun K => (He.Fa.glo "_law_box").ok K, fun K => (He.Fa.glo "_law_take").ok K, fun K => (He.Fa.glo "_law_week").ok K, fun K => (He.Fa.glo "_law_weeks").ok K, fun K => (He.Fa.glo "_law_turned").ok K, fun K => (He.Fa.glo "_law_between").ok K, fun K => (He.Fa.glo "_law_all").ok K, fun K => (He.Fa.glo "_law_right").ok K, fun K => (He.Fa.glo "law").ok K, fun K => (He.Fa.free "len").ok K, fun K => (He.Fa.free "isinstance").ok K, fun K => (He.Fa.free "repr").ok K, fun K => (He.Fa.free "range").ok K, fun K => (He.Fa.free "max").ok K, fun K => (He.Fa.free "min").ok K, fun K => (He.Fa.free "all").ok K, fun K => (He.Fa.free "sum").ok K, fun K => (He.Fa.free "sorted").ok K, fun K => (He.Fa.free "enumerate").ok K, fun K => (He.Fa.free "int").ok K, fun K => (He.Fa.free "list").ok K, fun K => (He.Fa.free "tuple").ok K, fun K => (He.Fa.free "dict").ok K, fun K => (He.Fa.free "bool").ok K, fun K => (He.Fa.free "ValueError").ok K, fun K => (He.Fa.free "LookupError").ok K, fun K => (He.Fa.int "MOST_WEEKS" 52).ok K, fun K => (He.Fa.int "MOST_WARMTH" 400).ok K, fun K => (He.Fa.int "MOST_COLD" 60).ok K, fun K => (He.Fa.glo "WeekError").ok K, Wk.sixB "WeekError", Wk.exbB "WeekError", fun K => (He.Fa.glo "MissError").ok K, Wk.sixB "MissError", fun K => (He.Fa.glo "NoNumber").ok K]
def fx1 : List WA.Fx := [Wk.sixB "NoNumber", Wk.exkB "NoNumber", fun K => (He.Fa.glo "NoYear").ok K, Wk.sixB "NoYear", Wk.exkB "NoYear", fun K => (He.Fa.glo "NoWeek").ok K, Wk.sixB "NoWeek", Wk.exkB "NoWeek", fun K => (He.Fa.glo "NotThere").ok K, Wk.sixB "NotThere", fun K => (He.Fa.glo "Year").ok K, Wk.sixB "Year", fun K => (He.Fa.cls "Year").ok K, fun K => (He.Fa.mkr "Year").ok K, Wk.insB "Year", Wk.pcB "Year" ["kept_normal", "kept_told"], fun K => (He.Fa.meth "Year" "__len__").ok K, fun K => (He.Fa.meth "Year" "__eq__").ok K, fun K => (He.Fa.meth "Year" "need_week").ok K, fun K => (He.Fa.meth "Year" "pair").ok K, fun K => (He.Fa.meth "Year" "tell").ok K, fun K => (He.Fa.meth "Year" "back").ok K, fun K => (He.Fa.meth "Year" "warmth").ok K, fun K => (He.Fa.meth "Year" "cold").ok K, fun K => (He.Fa.meth "Year" "warm_sum").ok K, fun K => (He.Fa.meth "Year" "coldest").ok K, fun K => (He.Fa.meth "Year" "told").ok K, fun K => (He.Fa.meth "Year" "weeks").ok K, fun K => (He.Fa.meth "Year" "copied").ok K, Wk.neB "Year", Wk.nfB "Year", Wk.sbB "Year", Wk.nfC "Year" "Year", Wk.kbB "Year", Wk.kiB "WeekError" "Year" false, Wk.kiB "MissError" "Year" false, Wk.kiB "NoNumber" "Year" false, Wk.kiB "NoYear" "Year" false, Wk.kiB "NoWeek" "Year" false, Wk.kiB "NotThere" "Year" false]
def fx2 : List WA.Fx := [Wk.kiB "Year" "Year" true, Wk.noList, fun K => (K.lookup sysModules).isSome]
def fx : List WA.Fx := fx0 ++ fx1 ++ fx2
abbrev a_NoNumber_init (K : PySem.W.Frag) : Addr := He.fAd K ("NoNumber", some "__init__")
abbrev a_NoYear_init (K : PySem.W.Frag) : Addr := He.fAd K ("NoYear", some "__init__")
abbrev a_NoWeek_init (K : PySem.W.Frag) : Addr := He.fAd K ("NoWeek", some "__init__")
abbrev a_is_whole (K : PySem.W.Frag) : Addr := He.fAd K ("is_whole", none)
abbrev a_is_warmth (K : PySem.W.Frag) : Addr := He.fAd K ("is_warmth", none)
abbrev a_is_cold (K : PySem.W.Frag) : Addr := He.fAd K ("is_cold", none)
abbrev a_is_pair (K : PySem.W.Frag) : Addr := He.fAd K ("is_pair", none)
abbrev a_Year_init (K : PySem.W.Frag) : Addr := He.fAd K ("Year", some "__init__")
abbrev a_Year_len (K : PySem.W.Frag) : Addr := He.fAd K ("Year", some "__len__")
abbrev a_Year_eq (K : PySem.W.Frag) : Addr := He.fAd K ("Year", some "__eq__")
abbrev a_Year_need_week (K : PySem.W.Frag) : Addr := He.fAd K ("Year", some "need_week")
abbrev a_Year_pair (K : PySem.W.Frag) : Addr := He.fAd K ("Year", some "pair")
abbrev a_Year_tell (K : PySem.W.Frag) : Addr := He.fAd K ("Year", some "tell")
abbrev a_Year_back (K : PySem.W.Frag) : Addr := He.fAd K ("Year", some "back")
abbrev a_Year_warmth (K : PySem.W.Frag) : Addr := He.fAd K ("Year", some "warmth")
abbrev a_Year_cold (K : PySem.W.Frag) : Addr := He.fAd K ("Year", some "cold")
abbrev a_Year_warm_sum (K : PySem.W.Frag) : Addr := He.fAd K ("Year", some "warm_sum")
abbrev a_Year_coldest (K : PySem.W.Frag) : Addr := He.fAd K ("Year", some "coldest")
abbrev a_Year_told (K : PySem.W.Frag) : Addr := He.fAd K ("Year", some "told")
abbrev a_Year_weeks (K : PySem.W.Frag) : Addr := He.fAd K ("Year", some "weeks")
abbrev a_Year_copied (K : PySem.W.Frag) : Addr := He.fAd K ("Year", some "copied")
abbrev a_l_cell (K : PySem.W.Frag) : Addr := He.fAd K ("_law_cell", none)
abbrev a_l_box (K : PySem.W.Frag) : Addr := He.fAd K ("_law_box", none)
abbrev a_l_take (K : PySem.W.Frag) : Addr := He.fAd K ("_law_take", none)
abbrev a_l_week (K : PySem.W.Frag) : Addr := He.fAd K ("_law_week", none)
abbrev a_l_weeks (K : PySem.W.Frag) : Addr := He.fAd K ("_law_weeks", none)
abbrev a_l_turned (K : PySem.W.Frag) : Addr := He.fAd K ("_law_turned", none)
abbrev a_l_between (K : PySem.W.Frag) : Addr := He.fAd K ("_law_between", none)
abbrev a_l_all (K : PySem.W.Frag) : Addr := He.fAd K ("_law_all", none)
abbrev a_l_right (K : PySem.W.Frag) : Addr := He.fAd K ("_law_right", none)
abbrev a_law (K : PySem.W.Frag) : Addr := He.fAd K ("law", none)
structure Tx (K : PySem.W.Frag) (mg : Str → Option Value) : Prop where
  c : WA.SaysX fx fn K
  h : ∃ h : Heap, K.In h ∧ h.Ns mainGlobals mg
section
variable {K : PySem.W.Frag} {mg : Str → Option Value}
theorem Tx.glo (T : Tx K mg) {x : Str} (i : Nat) (h : fx[i]? = some (fun K => (He.Fa.glo x).ok K) := by rfl) : mg x = some (.ref (He.ga K x)) := let ⟨_, X, G⟩ := T.h; He.glo_ok X G (T.c.fact i h)
theorem Tx.free (T : Tx K mg) {x : Str} (i : Nat) (h : fx[i]? = some (fun K => (He.Fa.free x).ok K) := by rfl) : mg x = none := let ⟨_, X, G⟩ := T.h; He.free_ok X G (T.c.fact i h)
theorem Tx.int (T : Tx K mg) {x : Str} {z : Int} (i : Nat) (h : fx[i]? = some (fun K => (He.Fa.int x z).ok K) := by rfl) : ∃ t, mg x = some (.int z t) := let ⟨_, X, G⟩ := T.h; He.int_ok X G (T.c.fact i h)
theorem Tx.str (T : Tx K mg) {x z : Str} (i : Nat) (h : fx[i]? = some (fun K => (He.Fa.str x z).ok K) := by rfl) : ∃ t, mg x = some (.str z t) := let ⟨_, X, G⟩ := T.h; He.str_ok X G (T.c.fact i h)
theorem Tx.g_is_whole (T : Tx K mg) : mg "is_whole" = some (.ref (a_is_whole K)) := T.glo (x := "is_whole") 0
theorem Tx.g_is_warmth (T : Tx K mg) : mg "is_warmth" = some (.ref (a_is_warmth K)) := T.glo (x := "is_warmth") 1
theorem Tx.g_is_cold (T : Tx K mg) : mg "is_cold" = some (.ref (a_is_cold K)) := T.glo (x := "is_cold") 2
theorem Tx.g_is_pair (T : Tx K mg) : mg "is_pair" = some (.ref (a_is_pair K)) := T.glo (x := "is_pair") 3
theorem Tx.g_l_cell (T : Tx K mg) : mg "_law_cell" = some (.ref (a_l_cell K)) := T.glo (x := "_law_cell") 4
theorem Tx.g_l_box (T : Tx K mg) : mg "_law_box" = some (.ref (a_l_box K)) := T.glo (x := "_law_box") 5
theorem Tx.g_l_take (T : Tx K mg) : mg "_law_take" = some (.ref (a_l_take K)) := T.glo (x := "_law_take") 6
theorem Tx.g_l_week (T : Tx K mg) : mg "_law_week" = some (.ref (a_l_week K)) := T.glo (x := "_law_week") 7
theorem Tx.g_l_weeks (T : Tx K mg) : mg "_law_weeks" = some (.ref (a_l_weeks K)) := T.glo (x := "_law_weeks") 8
theorem Tx.g_l_turned (T : Tx K mg) : mg "_law_turned" = some (.ref (a_l_turned K)) := T.glo (x := "_law_turned") 9
theorem Tx.g_l_between (T : Tx K mg) : mg "_law_between" = some (.ref (a_l_between K)) := T.glo (x := "_law_between") 10
theorem Tx.g_l_all (T : Tx K mg) : mg "_law_all" = some (.ref (a_l_all K)) := T.glo (x := "_law_all") 11
theorem Tx.g_l_right (T : Tx K mg) : mg "_law_right" = some (.ref (a_l_right K)) := T.glo (x := "_law_right") 12
theorem Tx.g_law (T : Tx K mg) : mg "law" = some (.ref (a_law K)) := T.glo (x := "law") 13
theorem Tx.n_len (T : Tx K mg) : mg "len" = none := T.free (x := "len") 14
theorem Tx.n_isinstance (T : Tx K mg) : mg "isinstance" = none := T.free (x := "isinstance") 15
theorem Tx.n_repr (T : Tx K mg) : mg "repr" = none := T.free (x := "repr") 16
theorem Tx.n_range (T : Tx K mg) : mg "range" = none := T.free (x := "range") 17
theorem Tx.n_max (T : Tx K mg) : mg "max" = none := T.free (x := "max") 18
theorem Tx.n_min (T : Tx K mg) : mg "min" = none := T.free (x := "min") 19
theorem Tx.n_all (T : Tx K mg) : mg "all" = none := T.free (x := "all") 20
theorem Tx.n_sum (T : Tx K mg) : mg "sum" = none := T.free (x := "sum") 21
theorem Tx.n_sorted (T : Tx K mg) : mg "sorted" = none := T.free (x := "sorted") 22
theorem Tx.n_enumerate (T : Tx K mg) : mg "enumerate" = none := T.free (x := "enumerate") 23
theorem Tx.n_int (T : Tx K mg) : mg "int" = none := T.free (x := "int") 24
theorem Tx.n_list (T : Tx K mg) : mg "list" = none := T.free (x := "list") 25
theorem Tx.n_tuple (T : Tx K mg) : mg "tuple" = none := T.free (x := "tuple") 26
theorem Tx.n_dict (T : Tx K mg) : mg "dict" = none := T.free (x := "dict") 27
theorem Tx.n_bool (T : Tx K mg) : mg "bool" = none := T.free (x := "bool") 28
theorem Tx.c_MOST_WEEKS (T : Tx K mg) : ∃ t, mg "MOST_WEEKS" = some (.int 52 t) := T.int (x := "MOST_WEEKS") (z := 52) 31
theorem Tx.c_MOST_WARMTH (T : Tx K mg) : ∃ t, mg "MOST_WARMTH" = some (.int 400 t) := T.int (x := "MOST_WARMTH") (z := 400) 32
theorem Tx.c_MOST_COLD (T : Tx K mg) : ∃ t, mg "MOST_COLD" = some (.int 60 t) := T.int (x := "MOST_COLD") (z := 60) 33
theorem Tx.y_WeekError (T : Tx K mg) : ExB K mg "WeekError" (He.ga K "WeekError") := let ⟨_, X, G⟩ := T.h; exb_ok X G (T.c.fact 34 (f := fun K => (He.Fa.glo "WeekError").ok K)) (T.c.fact 36)
theorem Tx.x_NoNumber (T : Tx K mg) : ExK K mg "NoNumber" (He.ga K "NoNumber") (a_NoNumber_init K) := let ⟨_, X, G⟩ := T.h; exk_ok X G (T.c.fact 39 (f := fun K => (He.Fa.glo "NoNumber").ok K)) (T.c.fact 41)
theorem Tx.x_NoYear (T : Tx K mg) : ExK K mg "NoYear" (He.ga K "NoYear") (a_NoYear_init K) := let ⟨_, X, G⟩ := T.h; exk_ok X G (T.c.fact 42 (f := fun K => (He.Fa.glo "NoYear").ok K)) (T.c.fact 44)
theorem Tx.x_NoWeek (T : Tx K mg) : ExK K mg "NoWeek" (He.ga K "NoWeek") (a_NoWeek_init K) := let ⟨_, X, G⟩ := T.h; exk_ok X G (T.c.fact 45 (f := fun K => (He.Fa.glo "NoWeek").ok K)) (T.c.fact 47)
theorem Tx.g_Year (T : Tx K mg) : mg "Year" = some (.ref (He.ga K "Year")) := T.glo (x := "Year") 50
theorem Tx.cl_Year (T : Tx K mg) : Cls K (He.ga K "Year") := He.cls_ok (T.c.fact 52 (f := fun K => (He.Fa.cls "Year").ok K))
theorem Tx.mk_Year (T : Tx K mg) : Mk K (He.ga K "Year") (a_Year_init K) := He.mkr_ok (T.c.fact 53 (f := fun K => (He.Fa.mkr "Year").ok K))
theorem Tx.in_Year (T : Tx K mg) : InsC K (He.ga K "Year") := ins_ok T.cl_Year (T.c.fact 54)
theorem Tx.pc_Year (T : Tx K mg) : PC K (He.ga K "Year") ["kept_normal", "kept_told"] := pc_ok T.cl_Year (T.c.fact 55)
theorem Tx.m_Year_len (T : Tx K mg) : Meth K (He.ga K "Year") "__len__" (a_Year_len K) := He.meth_ok (T.c.fact 56 (f := fun K => (He.Fa.meth "Year" "__len__").ok K))
theorem Tx.m_Year_eq (T : Tx K mg) : Meth K (He.ga K "Year") "__eq__" (a_Year_eq K) := He.meth_ok (T.c.fact 57 (f := fun K => (He.Fa.meth "Year" "__eq__").ok K))
theorem Tx.m_Year_need_week (T : Tx K mg) : Meth K (He.ga K "Year") "need_week" (a_Year_need_week K) := He.meth_ok (T.c.fact 58 (f := fun K => (He.Fa.meth "Year" "need_week").ok K))
theorem Tx.m_Year_pair (T : Tx K mg) : Meth K (He.ga K "Year") "pair" (a_Year_pair K) := He.meth_ok (T.c.fact 59 (f := fun K => (He.Fa.meth "Year" "pair").ok K))
theorem Tx.m_Year_tell (T : Tx K mg) : Meth K (He.ga K "Year") "tell" (a_Year_tell K) := He.meth_ok (T.c.fact 60 (f := fun K => (He.Fa.meth "Year" "tell").ok K))
theorem Tx.m_Year_back (T : Tx K mg) : Meth K (He.ga K "Year") "back" (a_Year_back K) := He.meth_ok (T.c.fact 61 (f := fun K => (He.Fa.meth "Year" "back").ok K))
theorem Tx.m_Year_warmth (T : Tx K mg) : Meth K (He.ga K "Year") "warmth" (a_Year_warmth K) := He.meth_ok (T.c.fact 62 (f := fun K => (He.Fa.meth "Year" "warmth").ok K))
theorem Tx.m_Year_cold (T : Tx K mg) : Meth K (He.ga K "Year") "cold" (a_Year_cold K) := He.meth_ok (T.c.fact 63 (f := fun K => (He.Fa.meth "Year" "cold").ok K))
theorem Tx.m_Year_warm_sum (T : Tx K mg) : Meth K (He.ga K "Year") "warm_sum" (a_Year_warm_sum K) := He.meth_ok (T.c.fact 64 (f := fun K => (He.Fa.meth "Year" "warm_sum").ok K))
theorem Tx.m_Year_coldest (T : Tx K mg) : Meth K (He.ga K "Year") "coldest" (a_Year_coldest K) := He.meth_ok (T.c.fact 65 (f := fun K => (He.Fa.meth "Year" "coldest").ok K))
theorem Tx.m_Year_told (T : Tx K mg) : Meth K (He.ga K "Year") "told" (a_Year_told K) := He.meth_ok (T.c.fact 66 (f := fun K => (He.Fa.meth "Year" "told").ok K))
theorem Tx.m_Year_weeks (T : Tx K mg) : Meth K (He.ga K "Year") "weeks" (a_Year_weeks K) := He.meth_ok (T.c.fact 67 (f := fun K => (He.Fa.meth "Year" "weeks").ok K))
theorem Tx.m_Year_copied (T : Tx K mg) : Meth K (He.ga K "Year") "copied" (a_Year_copied K) := He.meth_ok (T.c.fact 68 (f := fun K => (He.Fa.meth "Year" "copied").ok K))
theorem Tx.eq_Year (T : Tx K mg) : EqC K (He.ga K "Year") (a_Year_eq K) := eqc_ok T.in_Year T.m_Year_eq (T.c.fact 69)
theorem Tx.nf_Year_Year (T : Tx K mg) : PySem.W.notFirst K (He.ga K "Year") (.ref (He.ga K "Year")) = true := T.c.fact 72 (f := Wk.nfC "Year" "Year")
theorem Tx.ki_Year_Year (T : Tx K mg) : PySem.W.kitOne K (.ref (He.ga K "Year")) (.ref (He.ga K "Year")) = some true := of_decide_eq_true (T.c.fact 80 (f := Wk.kiB "Year" "Year" true))
theorem Tx.nol (T : Tx K mg) : noList K = true := T.c.fact 81
theorem Tx.sys (T : Tx K mg) : HasSys K := Option.isSome_iff_exists.mp (T.c.fact 82)
theorem Tx.f_NoNumber_init (T : Tx K mg) : FD K "__init__" "NoNumber.__init__" s_NoNumber_init [] (a_NoNumber_init K) := let ⟨_, F⟩ := T.c.def_ 0 (d := d_NoNumber_init); fd_of F
theorem Tx.b_NoNumber_init (T : Tx K mg) : Binds K (fdOf K (a_NoNumber_init K)) ["self", "found"] [] := FunD.bindsN T.f_NoNumber_init fun _ _ _ _ _ _ us hl => match us, hl with | [_, _], _ => rfl
theorem Tx.f_NoYear_init (T : Tx K mg) : FD K "__init__" "NoYear.__init__" s_NoYear_init [] (a_NoYear_init K) := let ⟨_, F⟩ := T.c.def_ 1 (d := d_NoYear_init); fd_of F
theorem Tx.b_NoYear_init (T : Tx K mg) : Binds K (fdOf K (a_NoYear_init K)) ["self", "found"] [] := FunD.bindsN T.f_NoYear_init fun _ _ _ _ _ _ us hl => match us, hl with | [_, _], _ => rfl
theorem Tx.f_NoWeek_init (T : Tx K mg) : FD K "__init__" "NoWeek.__init__" s_NoWeek_init [] (a_NoWeek_init K) := let ⟨_, F⟩ := T.c.def_ 2 (d := d_NoWeek_init); fd_of F
theorem Tx.b_NoWeek_init (T : Tx K mg) : Binds K (fdOf K (a_NoWeek_init K)) ["self", "found"] [] := FunD.bindsN T.f_NoWeek_init fun _ _ _ _ _ _ us hl => match us, hl with | [_, _], _ => rfl
theorem Tx.f_is_whole (T : Tx K mg) : FD K "is_whole" "is_whole" s_is_whole [] (a_is_whole K) := let ⟨_, F⟩ := T.c.def_ 4 (d := d_is_whole); fd_of F
theorem Tx.k_is_whole (T : Tx K mg) : PySem.W.keepIn K (.ref (a_is_whole K)) = true := T.f_is_whole.kp
theorem Tx.b_is_whole (T : Tx K mg) : Binds K (fdOf K (a_is_whole K)) ["thing", "low", "high"] [] := FunD.bindsN T.f_is_whole fun _ _ _ _ _ _ us hl => match us, hl with | [_, _, _], _ => rfl
theorem Tx.f_is_warmth (T : Tx K mg) : FD K "is_warmth" "is_warmth" s_is_warmth [] (a_is_warmth K) := let ⟨_, F⟩ := T.c.def_ 5 (d := d_is_warmth); fd_of F
theorem Tx.k_is_warmth (T : Tx K mg) : PySem.W.keepIn K (.ref (a_is_warmth K)) = true := T.f_is_warmth.kp
theorem Tx.b_is_warmth (T : Tx K mg) : Binds K (fdOf K (a_is_warmth K)) ["thing"] [] := FunD.bindsN T.f_is_warmth fun _ _ _ _ _ _ us hl => match us, hl with | [_], _ => rfl
theorem Tx.f_is_cold (T : Tx K mg) : FD K "is_cold" "is_cold" s_is_cold [] (a_is_cold K) := let ⟨_, F⟩ := T.c.def_ 6 (d := d_is_cold); fd_of F
theorem Tx.k_is_cold (T : Tx K mg) : PySem.W.keepIn K (.ref (a_is_cold K)) = true := T.f_is_cold.kp
theorem Tx.b_is_cold (T : Tx K mg) : Binds K (fdOf K (a_is_cold K)) ["thing"] [] := FunD.bindsN T.f_is_cold fun _ _ _ _ _ _ us hl => match us, hl with | [_], _ => rfl
theorem Tx.f_is_pair (T : Tx K mg) : FD K "is_pair" "is_pair" s_is_pair [] (a_is_pair K) := let ⟨_, F⟩ := T.c.def_ 7 (d := d_is_pair); fd_of F
theorem Tx.k_is_pair (T : Tx K mg) : PySem.W.keepIn K (.ref (a_is_pair K)) = true := T.f_is_pair.kp
theorem Tx.b_is_pair (T : Tx K mg) : Binds K (fdOf K (a_is_pair K)) ["thing"] [] := FunD.bindsN T.f_is_pair fun _ _ _ _ _ _ us hl => match us, hl with | [_], _ => rfl
theorem Tx.f_Year_init (T : Tx K mg) : FD K "__init__" "Year.__init__" s_Year_init [] (a_Year_init K) := let ⟨_, F⟩ := T.c.def_ 8 (d := d_Year_init); fd_of F
theorem Tx.f_Year_len (T : Tx K mg) : FD K "__len__" "Year.__len__" s_Year_len [] (a_Year_len K) := let ⟨_, F⟩ := T.c.def_ 9 (d := d_Year_len); fd_of F
theorem Tx.b_Year_len (T : Tx K mg) : Binds K (fdOf K (a_Year_len K)) ["self"] [] := FunD.bindsN T.f_Year_len fun _ _ _ _ _ _ us hl => match us, hl with | [_], _ => rfl
theorem Tx.f_Year_eq (T : Tx K mg) : FD K "__eq__" "Year.__eq__" s_Year_eq [] (a_Year_eq K) := let ⟨_, F⟩ := T.c.def_ 10 (d := d_Year_eq); fd_of F
theorem Tx.b_Year_eq (T : Tx K mg) : Binds K (fdOf K (a_Year_eq K)) ["self", "other"] [] := FunD.bindsN T.f_Year_eq fun _ _ _ _ _ _ us hl => match us, hl with | [_, _], _ => rfl
theorem Tx.f_Year_need_week (T : Tx K mg) : FD K "need_week" "Year.need_week" s_Year_need_week [] (a_Year_need_week K) := let ⟨_, F⟩ := T.c.def_ 11 (d := d_Year_need_week); fd_of F
theorem Tx.b_Year_need_week (T : Tx K mg) : Binds K (fdOf K (a_Year_need_week K)) ["self", "week"] [] := FunD.bindsN T.f_Year_need_week fun _ _ _ _ _ _ us hl => match us, hl with | [_, _], _ => rfl
theorem Tx.f_Year_pair (T : Tx K mg) : FD K "pair" "Year.pair" s_Year_pair [] (a_Year_pair K) := let ⟨_, F⟩ := T.c.def_ 12 (d := d_Year_pair); fd_of F
theorem Tx.b_Year_pair (T : Tx K mg) : Binds K (fdOf K (a_Year_pair K)) ["self", "week"] [] := FunD.bindsN T.f_Year_pair fun _ _ _ _ _ _ us hl => match us, hl with | [_, _], _ => rfl
theorem Tx.f_Year_tell (T : Tx K mg) : FD K "tell" "Year.tell" s_Year_tell [V.non] (a_Year_tell K) := let ⟨_, F⟩ := T.c.def_ 13 (d := d_Year_tell); fd_of F
theorem Tx.f_Year_back (T : Tx K mg) : FD K "back" "Year.back" s_Year_back [] (a_Year_back K) := let ⟨_, F⟩ := T.c.def_ 14 (d := d_Year_back); fd_of F
theorem Tx.b_Year_back (T : Tx K mg) : Binds K (fdOf K (a_Year_back K)) ["self", "week"] [] := FunD.bindsN T.f_Year_back fun _ _ _ _ _ _ us hl => match us, hl with | [_, _], _ => rfl
theorem Tx.f_Year_warmth (T : Tx K mg) : FD K "warmth" "Year.warmth" s_Year_warmth [] (a_Year_warmth K) := let ⟨_, F⟩ := T.c.def_ 15 (d := d_Year_warmth); fd_of F
theorem Tx.b_Year_warmth (T : Tx K mg) : Binds K (fdOf K (a_Year_warmth K)) ["self", "week"] [] := FunD.bindsN T.f_Year_warmth fun _ _ _ _ _ _ us hl => match us, hl with | [_, _], _ => rfl
theorem Tx.f_Year_cold (T : Tx K mg) : FD K "cold" "Year.cold" s_Year_cold [] (a_Year_cold K) := let ⟨_, F⟩ := T.c.def_ 16 (d := d_Year_cold); fd_of F
theorem Tx.b_Year_cold (T : Tx K mg) : Binds K (fdOf K (a_Year_cold K)) ["self", "week"] [] := FunD.bindsN T.f_Year_cold fun _ _ _ _ _ _ us hl => match us, hl with | [_, _], _ => rfl
theorem Tx.f_Year_warm_sum (T : Tx K mg) : FD K "warm_sum" "Year.warm_sum" s_Year_warm_sum [] (a_Year_warm_sum K) := let ⟨_, F⟩ := T.c.def_ 17 (d := d_Year_warm_sum); fd_of F
theorem Tx.b_Year_warm_sum (T : Tx K mg) : Binds K (fdOf K (a_Year_warm_sum K)) ["self", "first", "last"] [] := FunD.bindsN T.f_Year_warm_sum fun _ _ _ _ _ _ us hl => match us, hl with | [_, _, _], _ => rfl
theorem Tx.f_Year_coldest (T : Tx K mg) : FD K "coldest" "Year.coldest" s_Year_coldest [] (a_Year_coldest K) := let ⟨_, F⟩ := T.c.def_ 18 (d := d_Year_coldest); fd_of F
theorem Tx.b_Year_coldest (T : Tx K mg) : Binds K (fdOf K (a_Year_coldest K)) ["self", "first", "last"] [] := FunD.bindsN T.f_Year_coldest fun _ _ _ _ _ _ us hl => match us, hl with | [_, _, _], _ => rfl
theorem Tx.f_Year_told (T : Tx K mg) : FD K "told" "Year.told" s_Year_told [] (a_Year_told K) := let ⟨_, F⟩ := T.c.def_ 19 (d := d_Year_told); fd_of F
theorem Tx.b_Year_told (T : Tx K mg) : Binds K (fdOf K (a_Year_told K)) ["self"] [] := FunD.bindsN T.f_Year_told fun _ _ _ _ _ _ us hl => match us, hl with | [_], _ => rfl
theorem Tx.f_Year_weeks (T : Tx K mg) : FD K "weeks" "Year.weeks" s_Year_weeks [] (a_Year_weeks K) := let ⟨_, F⟩ := T.c.def_ 20 (d := d_Year_weeks); fd_of F
theorem Tx.b_Year_weeks (T : Tx K mg) : Binds K (fdOf K (a_Year_weeks K)) ["self"] [] := FunD.bindsN T.f_Year_weeks fun _ _ _ _ _ _ us hl => match us, hl with | [_], _ => rfl
theorem Tx.f_Year_copied (T : Tx K mg) : FD K "copied" "Year.copied" s_Year_copied [] (a_Year_copied K) := let ⟨_, F⟩ := T.c.def_ 21 (d := d_Year_copied); fd_of F
theorem Tx.b_Year_copied (T : Tx K mg) : Binds K (fdOf K (a_Year_copied K)) ["self"] [] := FunD.bindsN T.f_Year_copied fun _ _ _ _ _ _ us hl => match us, hl with | [_], _ => rfl
theorem Tx.f_l_cell (T : Tx K mg) : FD K "_law_cell" "_law_cell" s_l_cell [] (a_l_cell K) := let ⟨_, F⟩ := T.c.def_ 22 (d := d_l_cell); fd_of F
theorem Tx.k_l_cell (T : Tx K mg) : PySem.W.keepIn K (.ref (a_l_cell K)) = true := T.f_l_cell.kp
theorem Tx.b_l_cell (T : Tx K mg) : Binds K (fdOf K (a_l_cell K)) ["script", "k"] [] := FunD.bindsN T.f_l_cell fun _ _ _ _ _ _ us hl => match us, hl with | [_, _], _ => rfl
theorem Tx.f_l_box (T : Tx K mg) : FD K "_law_box" "_law_box" s_l_box [] (a_l_box K) := let ⟨_, F⟩ := T.c.def_ 23 (d := d_l_box); fd_of F
theorem Tx.k_l_box (T : Tx K mg) : PySem.W.keepIn K (.ref (a_l_box K)) = true := T.f_l_box.kp
theorem Tx.b_l_box (T : Tx K mg) : Binds K (fdOf K (a_l_box K)) ["cell"] [] := FunD.bindsN T.f_l_box fun _ _ _ _ _ _ us hl => match us, hl with | [_], _ => rfl
theorem Tx.f_l_take (T : Tx K mg) : FD K "_law_take" "_law_take" s_l_take [] (a_l_take K) := let ⟨_, F⟩ := T.c.def_ 24 (d := d_l_take); fd_of F
theorem Tx.k_l_take (T : Tx K mg) : PySem.W.keepIn K (.ref (a_l_take K)) = true := T.f_l_take.kp
theorem Tx.b_l_take (T : Tx K mg) : Binds K (fdOf K (a_l_take K)) ["box", "many"] [] := FunD.bindsN T.f_l_take fun _ _ _ _ _ _ us hl => match us, hl with | [_, _], _ => rfl
theorem Tx.f_l_week (T : Tx K mg) : FD K "_law_week" "_law_week" s_l_week [] (a_l_week K) := let ⟨_, F⟩ := T.c.def_ 25 (d := d_l_week); fd_of F
theorem Tx.k_l_week (T : Tx K mg) : PySem.W.keepIn K (.ref (a_l_week K)) = true := T.f_l_week.kp
theorem Tx.b_l_week (T : Tx K mg) : Binds K (fdOf K (a_l_week K)) ["box"] [] := FunD.bindsN T.f_l_week fun _ _ _ _ _ _ us hl => match us, hl with | [_], _ => rfl
theorem Tx.f_l_weeks (T : Tx K mg) : FD K "_law_weeks" "_law_weeks" s_l_weeks [] (a_l_weeks K) := let ⟨_, F⟩ := T.c.def_ 26 (d := d_l_weeks); fd_of F
theorem Tx.k_l_weeks (T : Tx K mg) : PySem.W.keepIn K (.ref (a_l_weeks K)) = true := T.f_l_weeks.kp
theorem Tx.b_l_weeks (T : Tx K mg) : Binds K (fdOf K (a_l_weeks K)) ["box"] [] := FunD.bindsN T.f_l_weeks fun _ _ _ _ _ _ us hl => match us, hl with | [_], _ => rfl
theorem Tx.f_l_turned (T : Tx K mg) : FD K "_law_turned" "_law_turned" s_l_turned [] (a_l_turned K) := let ⟨_, F⟩ := T.c.def_ 27 (d := d_l_turned); fd_of F
theorem Tx.k_l_turned (T : Tx K mg) : PySem.W.keepIn K (.ref (a_l_turned K)) = true := T.f_l_turned.kp
theorem Tx.b_l_turned (T : Tx K mg) : Binds K (fdOf K (a_l_turned K)) ["box", "rows"] [] := FunD.bindsN T.f_l_turned fun _ _ _ _ _ _ us hl => match us, hl with | [_, _], _ => rfl
theorem Tx.f_l_between (T : Tx K mg) : FD K "_law_between" "_law_between" s_l_between [] (a_l_between K) := let ⟨_, F⟩ := T.c.def_ 28 (d := d_l_between); fd_of F
theorem Tx.k_l_between (T : Tx K mg) : PySem.W.keepIn K (.ref (a_l_between K)) = true := T.f_l_between.kp
theorem Tx.b_l_between (T : Tx K mg) : Binds K (fdOf K (a_l_between K)) ["box", "year", "weeks", "later"] [] := FunD.bindsN T.f_l_between fun _ _ _ _ _ _ us hl => match us, hl with | [_, _, _, _], _ => rfl
theorem Tx.f_l_all (T : Tx K mg) : FD K "_law_all" "_law_all" s_l_all [] (a_l_all K) := let ⟨_, F⟩ := T.c.def_ 29 (d := d_l_all); fd_of F
theorem Tx.k_l_all (T : Tx K mg) : PySem.W.keepIn K (.ref (a_l_all K)) = true := T.f_l_all.kp
theorem Tx.b_l_all (T : Tx K mg) : Binds K (fdOf K (a_l_all K)) ["year", "many"] [] := FunD.bindsN T.f_l_all fun _ _ _ _ _ _ us hl => match us, hl with | [_, _], _ => rfl
theorem Tx.f_l_right (T : Tx K mg) : FD K "_law_right" "_law_right" s_l_right [] (a_l_right K) := let ⟨_, F⟩ := T.c.def_ 30 (d := d_l_right); fd_of F
theorem Tx.k_l_right (T : Tx K mg) : PySem.W.keepIn K (.ref (a_l_right K)) = true := T.f_l_right.kp
theorem Tx.b_l_right (T : Tx K mg) : Binds K (fdOf K (a_l_right K)) ["box"] [] := FunD.bindsN T.f_l_right fun _ _ _ _ _ _ us hl => match us, hl with | [_], _ => rfl
theorem Tx.f_law (T : Tx K mg) : FD K "law" "law" s_law [] (a_law K) := let ⟨_, F⟩ := T.c.def_ 31 (d := d_law); fd_of F
theorem Tx.kb_Year_init_2 (T : Tx K mg) : KB K (fdOf K (a_Year_init K)) ["self", "normal"] 2 [] (fun vs zs => gI [0, 1] (vs ++ zs)) := kb_n T.f_Year_init (fun vs zs => gI [0, 1] (vs ++ zs)) (fun r1 r2 => vals_gI (Vals.append r1 r2) _) fun _ _ _ _ _ _ us ws l1 l2 => match us, ws, l1, l2 with | [_, _], [], _, _ => rfl
theorem Tx.kb_Year_tell_4 (T : Tx K mg) : KB K (fdOf K (a_Year_tell K)) ["self", "week", "warmth", "cold"] 4 [] (fun vs zs => gI [0, 1, 2, 3] (vs ++ zs ++ [V.non])) := kb_d T.f_Year_tell (by simp) (fun vs ds zs => gI [0, 1, 2, 3] (vs ++ zs ++ ds)) (fun r1 r2 r3 => vals_gI (Vals.append (Vals.append r1 r3) r2) _) fun _ _ _ _ _ _ _ us its ws l1 l2 l3 => match us, its, ws, l1, l2, l3 with | [_, _, _, _], [_], [], _, _, _ => ⟨_, rfl, rfl⟩
theorem Tx.kb_Year_tell_3 (T : Tx K mg) : KB K (fdOf K (a_Year_tell K)) ["self", "week", "warmth", "cold"] 3 [] (fun vs zs => gI [0, 1, 2, 3] (vs ++ zs ++ [V.non])) := kb_d T.f_Year_tell (by simp) (fun vs ds zs => gI [0, 1, 2, 3] (vs ++ zs ++ ds)) (fun r1 r2 r3 => vals_gI (Vals.append (Vals.append r1 r3) r2) _) fun _ _ _ _ _ _ _ us its ws l1 l2 l3 => match us, its, ws, l1, l2, l3 with | [_, _, _], [_], [], _, _, _ => ⟨_, rfl, rfl⟩
end
theorem sc_NoNumber_init : FnScope ["self", "found"] ["self", "found"] (defScope s_NoNumber_init) := ⟨rfl, rfl, rfl, by decide +kernel, rfl, by decide +kernel, by decide +kernel⟩
theorem sc_NoYear_init : FnScope ["self", "found"] ["self", "found"] (defScope s_NoYear_init) := ⟨rfl, rfl, rfl, by decide +kernel, rfl, by decide +kernel, by decide +kernel⟩
theorem sc_NoWeek_init : FnScope ["self", "found"] ["self", "found"] (defScope s_NoWeek_init) := ⟨rfl, rfl, rfl, by decide +kernel, rfl, by decide +kernel, by decide +kernel⟩
theorem sc_is_whole : FnScope ["thing", "low", "high"] ["thing", "low", "high"] (defScope s_is_whole) := ⟨rfl, rfl, rfl, by decide +kernel, rfl, by decide +kernel, by decide +kernel⟩
theorem sc_is_warmth : FnScope ["thing"] ["thing"] (defScope s_is_warmth) := ⟨rfl, rfl, rfl, by decide +kernel, rfl, by decide +kernel, by decide +kernel⟩
theorem sc_is_cold : FnScope ["thing"] ["thing"] (defScope s_is_cold) := ⟨rfl, rfl, rfl, by decide +kernel, rfl, by decide +kernel, by decide +kernel⟩
theorem sc_is_pair : FnScope ["thing"] ["thing"] (defScope s_is_pair) := ⟨rfl, rfl, rfl, by decide +kernel, rfl, by decide +kernel, by decide +kernel⟩
theorem sc_Year_init : FnScope ["self", "normal", "thing"] ["self", "normal"] (defScope s_Year_init) := ⟨rfl, rfl, rfl, by decide +kernel, rfl, by decide +kernel, by decide +kernel⟩
theorem sc_Year_len : FnScope ["self"] ["self"] (defScope s_Year_len) := ⟨rfl, rfl, rfl, by decide +kernel, rfl, by decide +kernel, by decide +kernel⟩
theorem sc_Year_eq : FnScope ["self", "other"] ["self", "other"] (defScope s_Year_eq) := ⟨rfl, rfl, rfl, by decide +kernel, rfl, by decide +kernel, by decide +kernel⟩
theorem sc_Year_need_week : FnScope ["self", "week"] ["self", "week"] (defScope s_Year_need_week) := ⟨rfl, rfl, rfl, by decide +kernel, rfl, by decide +kernel, by decide +kernel⟩
theorem sc_Year_pair : FnScope ["self", "week"] ["self", "week"] (defScope s_Year_pair) := ⟨rfl, rfl, rfl, by decide +kernel, rfl, by decide +kernel, by decide +kernel⟩
theorem sc_Year_tell : FnScope ["self", "week", "warmth", "cold"] ["self", "week", "warmth", "cold"] (defScope s_Year_tell) := ⟨rfl, rfl, rfl, by decide +kernel, rfl, by decide +kernel, by decide +kernel⟩
theorem sc_Year_back : FnScope ["self", "week"] ["self", "week"] (defScope s_Year_back) := ⟨rfl, rfl, rfl, by decide +kernel, rfl, by decide +kernel, by decide +kernel⟩
theorem sc_Year_warmth : FnScope ["self", "week"] ["self", "week"] (defScope s_Year_warmth) := ⟨rfl, rfl, rfl, by decide +kernel, rfl, by decide +kernel, by decide +kernel⟩
theorem sc_Year_cold : FnScope ["self", "week"] ["self", "week"] (defScope s_Year_cold) := ⟨rfl, rfl, rfl, by decide +kernel, rfl, by decide +kernel, by decide +kernel⟩
theorem sc_Year_warm_sum : FnScope ["self", "first", "last", "week"] ["self", "first", "last"] (defScope s_Year_warm_sum) := ⟨rfl, rfl, rfl, by decide +kernel, rfl, by decide +kernel, by decide +kernel⟩
theorem sc_Year_coldest : FnScope ["self", "first", "last", "week"] ["self", "first", "last"] (defScope s_Year_coldest) := ⟨rfl, rfl, rfl, by decide +kernel, rfl, by decide +kernel, by decide +kernel⟩
theorem sc_Year_told : FnScope ["self", "week"] ["self"] (defScope s_Year_told) := ⟨rfl, rfl, rfl, by decide +kernel, rfl, by decide +kernel, by decide +kernel⟩
theorem sc_Year_weeks : FnScope ["self", "week"] ["self"] (defScope s_Year_weeks) := ⟨rfl, rfl, rfl, by decide +kernel, rfl, by decide +kernel, by decide +kernel⟩
theorem sc_Year_copied : FnScope ["self", "other"] ["self"] (defScope s_Year_copied) := ⟨rfl, rfl, rfl, by decide +kernel, rfl, by decide +kernel, by decide +kernel⟩
theorem sc_l_cell : FnScope ["script", "k"] ["script", "k"] (defScope s_l_cell) := ⟨rfl, rfl, rfl, by decide +kernel, rfl, by decide +kernel, by decide +kernel⟩
theorem sc_l_box : FnScope ["cell"] ["cell"] (defScope s_l_box) := ⟨rfl, rfl, rfl, by decide +kernel, rfl, by decide +kernel, by decide +kernel⟩
theorem sc_l_take : FnScope ["box", "many", "digit", "one", "other"] ["box", "many"] (defScope s_l_take) := ⟨rfl, rfl, rfl, by decide +kernel, rfl, by decide +kernel, by decide +kernel⟩
theorem sc_l_week : FnScope ["box", "warmth"] ["box"] (defScope s_l_week) := ⟨rfl, rfl, rfl, by decide +kernel, rfl, by decide +kernel, by decide +kernel⟩
theorem sc_l_weeks : FnScope ["box", "many", "k"] ["box"] (defScope s_l_weeks) := ⟨rfl, rfl, rfl, by decide +kernel, rfl, by decide +kernel, by decide +kernel⟩
theorem sc_l_turned : FnScope ["box", "rows", "left", "found"] ["box", "rows"] (defScope s_l_turned) := ⟨rfl, rfl, rfl, by decide +kernel, rfl, by decide +kernel, by decide +kernel⟩
theorem sc_l_between : FnScope ["box", "year", "weeks", "later", "way", "warmth", "cold", "week"] ["box", "year", "weeks", "later"] (defScope s_l_between) := ⟨rfl, rfl, rfl, by decide +kernel, rfl, by decide +kernel, by decide +kernel⟩
theorem sc_l_all : FnScope ["year", "many", "found", "k"] ["year", "many"] (defScope s_l_all) := ⟨rfl, rfl, rfl, by decide +kernel, rfl, by decide +kernel, by decide +kernel⟩
theorem sc_l_right : FnScope ["box", "normal", "many", "rows", "one", "other", "bare", "at", "turned", "week", "warmth", "cold", "copy", "still", "kept", "k", "row", "due", "told", "year"] ["box"] (defScope s_l_right) := ⟨rfl, rfl, rfl, by decide +kernel, rfl, by decide +kernel, by decide +kernel⟩
theorem sc_law : FnScope ["script", "k"] ["script"] (defScope s_law) := ⟨rfl, rfl, rfl, by decide +kernel, rfl, by decide +kernel, by decide +kernel⟩
theorem ok_NoNumber_init {P : Program} {w : World} {K : PySem.W.Frag} {mg : Str → Option Value} {base : Heap} (T : Tx K mg) : FnOk P w K mg base CX0 2 (a_NoNumber_init K) (fdOf K (a_NoNumber_init K)) ["self", "found"] (spInit K (He.ga K "NoNumber")) :=
  FunD.ok T.f_NoNumber_init sc_NoNumber_init (fun vs H Q E h => spInit_len h) (fun cdv A outer s H vs Q E hr h => ⟨_, (pss_cons (ps_expr (pe_binit T.y_WeekError rfl (pa_cons (pv 0) (pa_cons pe_str pa_nil))))
 (pss_one (ps_ost (pv 0) (pv 1)))), init_plain h⟩)
theorem ok_NoYear_init {P : Program} {w : World} {K : PySem.W.Frag} {mg : Str → Option Value} {base : Heap} (T : Tx K mg) : FnOk P w K mg base CX0 2 (a_NoYear_init K) (fdOf K (a_NoYear_init K)) ["self", "found"] (spInit K (He.ga K "NoYear")) :=
  FunD.ok T.f_NoYear_init sc_NoYear_init (fun vs H Q E h => spInit_len h) (fun cdv A outer s H vs Q E hr h => ⟨_, (pss_cons (ps_expr (pe_binit T.y_WeekError rfl (pa_cons (pv 0) (pa_cons pe_str pa_nil))))
 (pss_one (ps_ost (pv 0) (pv 1)))), init_plain h⟩)
theorem ok_NoWeek_init {P : Program} {w : World} {K : PySem.W.Frag} {mg : Str → Option Value} {base : Heap} (T : Tx K mg) : FnOk P w K mg base CX0 2 (a_NoWeek_init K) (fdOf K (a_NoWeek_init K)) ["self", "found"] (spInit K (He.ga K "NoWeek")) :=
  FunD.ok T.f_NoWeek_init sc_NoWeek_init (fun vs H Q E h => spInit_len h) (fun cdv A outer s H vs Q E hr h => ⟨_, (pss_cons (ps_expr (pe_binit T.y_WeekError rfl (pa_cons (pv 0) (pa_cons pe_str pa_nil))))
 (pss_one (ps_ost (pv 0) (pv 1)))), init_plain h⟩)
end Wk
set_option maxRecDepth 100000
set_option maxHeartbeats 0
namespace Wk
open PySem PySem.Spec PyProof.Rows L2
def ln0 : List Str := ["WeekError", "MissError", "NoNumber", "NoYear", "NoWeek", "NotThere", "is_whole", "MOST_WEEKS", "MOST_WARMTH", "MOST_COLD", "is_warmth", "is_cold", "is_pair", "Year", "_law_cell", "_law_box", "_law_take", "_law_week", "_law_weeks", "_law_turned", "_law_between", "_law_all", "_law_right"]
def loose : List Str := ln0
abbrev Rw : PySem.W.OpenRow := PySem.W.OpenLaw.row PySem.Challenge.rw_weekheads_k13_whole_told_in_any_order
abbrev hk : PySem.W.Hook := WA.hookX cs fx fn
def ob (s : PySem.W.SharedT) : WA.AlX := WA.obsXG cs fx fn (HandSHeadRun.getT s)
theorem ob_eq (s : PySem.W.SharedT) : ob s = hk.obs s.abs := WA.obsXG_eq (HandSHeadRun.getT_eq s)
theorem run (w : World) : HandSHeadRun.RunEq Rw (PySem.W.view Rw.prog [27]) hk ob 20000 loose w := by
  intro os
  kernel_rfl
end Wk
section
open PySem PySem.W PySem.Calls PyProof.Rows
set_option maxRecDepth 100000 in
set_option maxHeartbeats 0 in
theorem Wk.lawFin (HC : ∀ {q : Program} {loose : List Str} {XP : (Str → Option Value) → Heap → Prop} {d : DefRec}, d.params.defaults = [] → d.name = "law" → PySem.W.WalkO q loose XP Wk.hk.says (PySem.W.OpenLaw.row PySem.Challenge.rw_weekheads_k13_whole_told_in_any_order).toRowW d [] (fun f vs => PySem.call f vs)) : PySem.Challenge.rw_weekheads_k13_whole_told_in_any_order.Holds := by
  w_on; o_law
  refine HandSHeadRun.head_any (r := OpenLaw.row PySem.Challenge.rw_weekheads_k13_whole_told_in_any_order) (q := view (OpenLaw.row PySem.Challenge.rw_weekheads_k13_whole_told_in_any_order).prog [27]) (H := Wk.hk) (ob := Wk.ob) (M := 20000) (loose := Wk.loose) (d := HandSHeadRun.topDef (OpenLaw.row PySem.Challenge.rw_weekheads_k13_whole_told_in_any_order).prog 27) (kwd := []) Wk.ob_eq
    (by kernel_rfl) (fun s => by kernel_rfl) Wk.run (by kernel_rfl) (by kernel_rfl) (by kernel_rfl) (by rfl) (by first | assumption | decide +kernel) (by decide +kernel) ⟨rfl, rfl, rfl, rfl, rfl, by decide +kernel⟩ ?hw ?hc
  case hw => w_witness2
  case hc => exact HC (by kernel_rfl) (by kernel_rfl)
end
set_option maxRecDepth 100000
set_option maxHeartbeats 4000000
namespace Wk
open PySem PySem.Spec PyProof.Rows L2
local macro_rules | `(tactic| wtm_at "mem") => `(tactic| fail)
local macro_rules | `(tactic| wtm_at "mem") => `(tactic| first
  | exact List.mem_cons_self ..
  | exact List.mem_cons_of_mem _ (List.mem_cons_self ..)
  | exact List.mem_cons_of_mem _ (List.mem_cons_of_mem _ (List.mem_cons_self ..))
  | exact List.mem_cons_of_mem _ (List.mem_cons_of_mem _ (List.mem_cons_of_mem _ (List.mem_cons_self ..)))
  | exact List.mem_cons_of_mem _ (List.mem_cons_of_mem _ (List.mem_cons_of_mem _ (List.mem_cons_of_mem _ (List.mem_cons_self ..)))))
local macro_rules | `(tactic| wtm_at "dat") => `(tactic| fail)
local macro_rules | `(tactic| wtm_at "dat") => `(tactic| first
  | assumption
  | (refine Ex.of ?_ (by assumption); wtm_at "dat"))
local macro_rules | `(tactic| wtm_at "ex") => `(tactic| fail)
local macro_rules | `(tactic| wtm_at "ex") => `(tactic| first
  | assumption
  | exact Ex.refl _
  | (refine Ex.trans ?_ (by assumption); wtm_at "ex"))
local macro_rules | `(tactic| wtm_at "hp") => `(tactic| fail)
local macro_rules | `(tactic| wtm_at "hp") => `(tactic| first
  | assumption
  | exact HI.get (by assumption) (by wtm_at "mem")
  | exact HI.dat (by assumption) (by wtm_at "dat"))
local macro_rules | `(tactic| wtm_at "hi") => `(tactic| fail)
local macro_rules | `(tactic| wtm_at "hi") => `(tactic| first
  | assumption
  | exact HI.swap (by assumption)
  | exact HI.up2 (by assumption)
  | exact HI.up3 (by assumption))
local macro_rules | `(tactic| wtm_at "num") => `(tactic| fail)
local macro_rules | `(tactic| wtm_at "num") => `(tactic| first
  | omega
  | decide
  | exact ⟨by decide, by decide⟩
  | exact cdiv_of (by omega) (by omega)
  | exact ⟨by omega, by omega⟩
  | (refine ⟨by omega, by omega, ?_⟩; omega)
  | exact Or.inl ⟨by omega, by omega⟩
  | exact Or.inr ⟨by omega, by omega⟩)
local macro_rules | `(tactic| wtm_at "kn") => `(tactic| fail)
local macro_rules | `(tactic| wtm_at "kn") => `(tactic| first
  | assumption
  | exact Kn.int _
  | exact Kn.str _
  | exact Kn.bl _
  | exact Kn.non
  | exact HI.kn (by assumption) (by assumption)
  | exact HI.kn (by assumption) (Kn.mono (by assumption) (by assumption))
  | exact Kn.lst (by wtm_at "hp")
  | exact Kn.tup (by wtm_at "hp")
  | exact Kn.dict (by wtm_at "hp"))
local macro_rules | `(tactic| wtm_at "s1x0") => `(tactic| fail)
local macro_rules | `(tactic| wtm_at "s1x0") => `(tactic| first
  | with_reducible refine st_seq ?_
  | with_reducible refine st_asg ?_
  | with_reducible refine st_ret ?_
  | with_reducible refine st_if ?_
  | with_reducible refine st_drop ?_
  | with_reducible refine st_next ?_
  | with_reducible refine st_brk ?_
  | with_reducible refine st_cont ?_
  | with_reducible refine sg_name ?_
  | with_reducible refine sg_sub ?_
  | with_reducible refine sg_nil ?_
  | with_reducible refine sg_cons ?_)
local macro_rules | `(tactic| wtm_at "s1x1") => `(tactic| fail)
local macro_rules | `(tactic| wtm_at "s1x1") => `(tactic| first
  | ((with_reducible refine' sg_tup ?e1 ?e2 ?_); (case e1 => exact SqT.of (by wtm_at "hp")); (case e2 => rfl))
  | ((with_reducible refine' se_var ?e1 ?_); (case e1 => rfl))
  | with_reducible refine se_c ?_
  | with_reducible refine se_op ?_
  | with_reducible refine se_un ?_
  | with_reducible refine se_tup ?_
  | with_reducible refine se_lst ?_
  | with_reducible refine se_lstM ?_
  | with_reducible refine st_for ?_
  | with_reducible refine se_lc ?_
  | with_reducible refine it_rng1 ?_
  | with_reducible refine it_rng2 ?_)
local macro_rules | `(tactic| wtm_at "s1x2") => `(tactic| fail)
local macro_rules | `(tactic| wtm_at "s1x2") => `(tactic| first
  | with_reducible refine it_list ?_
  | with_reducible refine it_str ?_
  | with_reducible refine strI_mk ?_
  | ((with_reducible refine' list_mk ?e1 ?_); (case e1 => wtm_at "hp"))
  | ((with_reducible refine' rng1_mk ?e1 ?e2 ?_); (case e1 => omega); (case e2 => omega))
  | ((with_reducible refine' rng2_mk ?e1 ?_); (case e1 => omega))
  | with_reducible refine st_yes ?_
  | ((with_reducible refine' al_D ?e1 ?_); (case e1 => assumption); intro _ _ _ _ _ _)
  | ((with_reducible refine' al_M ?e1 ?_); (case e1 => assumption); intro _ _ _)
  | ((with_reducible refine' and_on ?e1 ?_); (case e1 => first | exact small_ok (Nat.le_of_ble_eq_true rfl) | rfl | omega))
  | with_reducible refine sa_nil ?_
  | with_reducible refine sa_cons ?_)
local macro_rules | `(tactic| wtm_at "s1x3") => `(tactic| fail)
local macro_rules | `(tactic| wtm_at "s1x3") => `(tactic| first
  | with_reducible refine se_cb ?_
  | with_reducible refine se_if ?_
  | with_reducible refine st_test ?_
  | with_reducible refine st_B ?_
  | with_reducible refine st_bl ?_
  | with_reducible refine st_and ?_
  | with_reducible refine st_or ?_
  | with_reducible refine st_not ?_
  | with_reducible refine ri0_mk ?_
  | with_reducible refine ru_mk ?_
  | ((with_reducible refine' ri_mk ?e1 ?_); (case e1 => wtm_at "num"))
  | with_reducible refine RAdd.int ?_)
local macro_rules | `(tactic| wtm_at "s1x4") => `(tactic| fail)
local macro_rules | `(tactic| wtm_at "s1x4") => `(tactic| first
  | ((with_reducible refine' RMul.int ?e1 ?_); (case e1 => wtm_at "num"))
  | with_reducible refine req_int ?_
  | with_reducible refine rne_int ?_
  | with_reducible refine req_str ?_
  | with_reducible refine rne_str ?_
  | ((with_reducible refine' RIx.l ?e1 ?e2 ?_); (case e1 => wtm_at "hp"); (case e2 => rfl))
  | ((with_reducible refine' set_c ?e1 ?e2 ?_); (case e1 => assumption); (case e2 => rfl); intro _ _)
  | ((with_reducible refine' set_c2 ?e1 ?e2 ?_); (case e1 => assumption); (case e2 => rfl); intro _ _)
  | ((with_reducible refine' set_c3 ?e1 ?e2 ?_); (case e1 => assumption); (case e2 => rfl); intro _ _)
  | with_reducible refine iteT ?_
  | with_reducible refine iteF ?_
  | ((with_reducible refine' if_yes ?e1 ?_); (case e1 => omega)))
local macro_rules | `(tactic| wtm_at "s1x5") => `(tactic| fail)
local macro_rules | `(tactic| wtm_at "s1x5") => `(tactic| first
  | ((with_reducible refine' if_no ?e1 ?_); (case e1 => omega))
  | ((with_reducible refine' if_yesN ?e1 ?_); (case e1 => omega))
  | ((with_reducible refine' if_noN ?e1 ?_); (case e1 => omega))
  | ((with_reducible refine' RIx.t ?e1 ?e2 ?_); (case e1 => wtm_at "hp"); (case e2 => rfl))
  | with_reducible refine se_andV ?_
  | with_reducible refine se_orV ?_
  | with_reducible refine se_notV ?_
  | with_reducible refine se_chain ?_
  | with_reducible refine se_sl ?_
  | with_reducible refine so_none ?_
  | with_reducible refine so_some ?_
  | with_reducible refine so_int ?_)
local macro_rules | `(tactic| wtm_at "s1x6") => `(tactic| fail)
local macro_rules | `(tactic| wtm_at "s1x6") => `(tactic| first
  | with_reducible refine se_m1 ?_
  | with_reducible refine se_m0 ?_
  | with_reducible refine m_str ?_
  | with_reducible refine se_mkE ?_
  | ((with_reducible refine' mkE_now ?e1 ?_); (case e1 => assumption); intro _ _ _ _ _ _ _ _)
  | with_reducible refine st_raiseX ?_
  | ((with_reducible refine' mkX_now ?e1 ?_); (case e1 => assumption); intro _ _ _ _ _ _)
  | with_reducible refine st_par ?_
  | with_reducible refine par_mk ?_
  | ((with_reducible refine' st_aug ?e1 ?_); (case e1 => rfl))
  | ((with_reducible refine' RIsi.ty ?e1 ?e2 ?_); (case e1 => wtm_at "kn"); (case e2 => decide))
  | with_reducible refine ris_non ?_)
local macro_rules | `(tactic| wtm_at "s1x7") => `(tactic| fail)
local macro_rules | `(tactic| wtm_at "s1x7") => `(tactic| first
  | with_reducible refine ris_nonN ?_
  | with_reducible refine ris_bl ?_
  | with_reducible refine ris_blN ?_
  | with_reducible refine rin_sign ?_
  | with_reducible refine rni_sign ?_
  | ((with_reducible refine' RLen.str ?e1 ?_); (case e1 => first | exact small_ok (by omega) | exact small_ok (Nat.le_of_ble_eq_true rfl)))
  | ((with_reducible refine' RLen.lst ?e1 ?_); (case e1 => wtm_at "hp"))
  | ((with_reducible refine' RLen.frz ?e1 ?_); (case e1 => wtm_at "hp"))
  | ((with_reducible refine' RLen.tup ?e1 ?_); (case e1 => wtm_at "hp"))
  | (with_reducible refine RMx.mk ?_; intro _ _ _ _)
  | (with_reducible refine RMn.mk ?_; intro _ _ _ _)
  | with_reducible refine RStarts.mk ?_)
local macro_rules | `(tactic| wtm_at "s1x8") => `(tactic| fail)
local macro_rules | `(tactic| wtm_at "s1x8") => `(tactic| first
  | with_reducible refine RFind.mk ?_
  | with_reducible refine RInt.bl ?_
  | ((with_reducible refine' RAll.mk ?e1 ?_); (case e1 => wtm_at "hp")))
local macro_rules | `(tactic| wtm_at "s1") => `(tactic| fail)
local macro_rules | `(tactic| wtm_at "s1") => `(tactic| first
  | wtm_at "s1x0"
  | wtm_at "s1x1"
  | wtm_at "s1x2"
  | wtm_at "s1x3"
  | wtm_at "s1x4"
  | wtm_at "s1x5"
  | wtm_at "s1x6"
  | wtm_at "s1x7"
  | wtm_at "s1x8")
local macro_rules | `(tactic| wtm_at "sx") => `(tactic| fail)
local macro_rules | `(tactic| wtm_at "sx") => `(tactic| repeat (wtm_at "s1"; try dsimp only [List.set, Int.reduceToNat]))
local macro_rules | `(tactic| wtm_at "go") => `(tactic| fail)
local macro_rules | `(tactic| wtm_at "go") => `(tactic| (dsimp only [cxOf, L2.start, List.map, List.length, List.replicate, Nat.reduceAdd, Nat.reduceSub, List.replicate, HAppend.hAppend, Append.append, List.append]; wtm_at "sx"))
local macro_rules | `(tactic| wtm_at "sxm") => `(tactic| fail)
local macro_rules | `(tactic| wtm_at "sxm") => `(tactic| repeat (first | ((with_reducible refine' mod_let ?e1 ?_); (case e1 => omega); intro _ _ _) | wtm_at "s1"; try dsimp only [List.set, Int.reduceToNat]))
local macro_rules | `(tactic| wtm_at "go0") => `(tactic| fail)
local macro_rules | `(tactic| wtm_at "go0") => `(tactic| dsimp only [cxOf, L2.start, List.map, List.length, List.replicate, Nat.reduceAdd, Nat.reduceSub, List.replicate, HAppend.hAppend, Append.append, List.append])
/-- the three numbers of a box, drawn at most n times -/
structure BoxOk (n : Nat) (x y z : Int) : Prop where
  x0 : 0 ≤ x
  y0 : 0 ≤ y
  y1 : y < 2147483629
  z0 : 0 ≤ z
  z1 : z ≤ n
abbrev bx (x y z : Int) : HO := .lst [.int x, .int y, .int z]
/-- a draw: below many, the box drawn once more -/
def spTake : Sp := fun vs H Q _ => ∃ (b : Addr) (m : Int) (R : List (Addr × HO)) (D : Hp) (x y z : Int) (n : Nat), vs = [.ref b, .int m] ∧ 0 < m ∧ m < 2 ^ 100 ∧ HI H ((b, bx x y z) :: R) D ∧ BoxOk n x y z ∧ n < 1000000 ∧
  ∀ r x' y' z' H', HI H' ((b, bx x' y' z') :: R) D → BoxOk (n + 1) x' y' z' → 0 ≤ r → r < m → Q (.int r) H'
theorem take_now {b : Addr} {m : Int} {R : List (Addr × HO)} {D H : Hp} {x y z : Int} {n : Nat} {Q : VK} {E : XK} (hi : HI H ((b, bx x y z) :: R) D) (m0 : 0 < m) (m1 : m < 2 ^ 100) (hb : BoxOk n x y z) (hn : n < 1000000)
    (k : ∀ r x' y' z' H', HI H' ((b, bx x' y' z') :: R) D → BoxOk (n + 1) x' y' z' → 0 ≤ r → r < m → Q (.int r) H') : spTake ([V.ref b, V.int m] ++ []) H Q E := ⟨b, m, R, D, x, y, z, n, rfl, m0, m1, hi, hb, hn, k⟩
set_option maxHeartbeats 400000 in
theorem ok_l_take {P : Program} {w : World} {K : PySem.W.Frag} {mg : Str → Option Value} {base : Heap} (T : Tx K mg) : FnG P w K mg base 1 (a_l_take K) ["box", "many"] spTake := by
  refine T.f_l_take.ok sc_l_take (fun vs H Q E h => ?_) (fun cdv A outer s H vs Q E hgu hr h => ⟨_, (pss_cons (ps_if (pt_cmpR op_gt (pe_ix ix_U (pv 0) pe_int (fun _ _ => rfl)) pe_int (nomark _)) (pss_cons (ps_set (i := 2) sc_l_take.nd rfl (Or.inl rfl) (pe_op op_mod (pe_ix ix_U (pv 0) pe_int (fun _ _ => rfl)) (pv 1)))
 (pss_cons (ps_asg (pe_op op_fdivW (pe_ix ix_U (pv 0) pe_int (fun _ _ => rfl)) (pv 1)) (pg_sub (pv 0) pe_int set_list))
 (pss_one (ps_ret (pv 2))))) pss_nil)
 (pss_cons (ps_asg (pe_op op_addU (pe_ix ix_U (pv 0) pe_int (fun _ _ => rfl)) pe_int) (pg_sub (pv 0) pe_int set_list))
 (pss_cons (ps_set (i := 3) sc_l_take.nd rfl (Or.inl rfl) (pe_op op_mod (pe_op op_pow (pe_op op_addU (pe_op op_addU (pe_ix ix_U (pv 0) pe_int (fun _ _ => rfl)) (pe_op op_mulU pe_int (pe_ix ix_U (pv 0) pe_int (fun _ _ => rfl)))) pe_int) pe_int) pe_int))
 (pss_cons (ps_set (i := 4) sc_l_take.nd rfl (Or.inl rfl) (pe_op op_mod (pe_op op_pow (pe_op op_addU (pe_op op_addU (pe_op op_fdivW (pv 3) pe_int) (pe_op op_mulU (pe_op op_mulU pe_int (pe_ix ix_U (pv 0) pe_int (fun _ _ => rfl))) (pe_ix ix_U (pv 0) pe_int (fun _ _ => rfl)))) pe_int) pe_int) pe_int))
 (pss_one (ps_ret (pe_op op_mod (pe_op op_addU (pe_op op_fdivW (pv 3) pe_int) (pe_op op_mulU pe_int (pe_op op_fdivW (pv 4) pe_int))) (pv 1)))))))), ?_⟩)
  · obtain ⟨b, m, R, D, x, y, z, n, rfl, _⟩ := h
    rfl
  · obtain ⟨b, m, R, D, x, y, z, n, rfl, m0, m1, hi, hb, hn, k⟩ := h
    obtain ⟨x0, y0, y1, z0, z1⟩ := hb
    wtm_at "go"
    refine if_dec (fun h => ?_) (fun h => ?_)
    · wtm_at "sx"
      exact k _ _ _ _ _ (by assumption) ⟨Int.ediv_nonneg x0 (by omega), y0, y1, z0, by omega⟩ (Int.emod_nonneg _ (by omega)) (Int.emod_lt_of_pos _ m0)
    · wtm_at "sxm"
      refine ri_mk ⟨by decide, by decide, pow_ok (by omega) (by omega) (by omega) (by omega) (by omega) (by omega) (by omega) (by omega)⟩ ?_
      wtm_at "sxm"
      exact k _ _ _ _ _ (by assumption) ⟨x0, y0, y1, by omega, by omega⟩ (by assumption) (by assumption)
theorem take_more {α : Type} : ∀ {l : List α} {i : Nat} {x : α}, l[i]? = some x → l.take (i + 1) = l.take i ++ [x]
  | [], i, x, h => by simp at h
  | a :: l, 0, x, h => by
    have e : a = x := Option.some.inj h
    subst e
    rfl
  | a :: l, i + 1, x, h => by
    have ih := take_more (l := l) (i := i) (x := x) h
    show a :: l.take (i + 1) = a :: l.take i ++ [x]
    rw [ih]
    rfl
def spCell : Sp := fun vs H Q _ => ∃ (l : Addr) (o : Obj) (k : Int) (ns : List Int) (R : Cells) (D : Hp), vs = [.ref l, .int k] ∧ HI H R D ∧ D l = some (.frz o (.lst (ns.map V.int))) ∧ 0 ≤ k ∧ k < 1000 ∧ ∀ c H', HI H' R D → Q (.int c) H'
def spBox : Sp := fun vs H Q _ => ∃ (c : Int) (R : Cells) (D : Hp), vs = [.int c] ∧ HI H R D ∧ ∀ b x y H', HI H' ((b, bx x y 0) :: R) D → BoxOk 0 x y 0 → Q (.ref b) H'
set_option maxHeartbeats 400000 in
theorem ok_l_cell {P : Program} {w : World} {K : PySem.W.Frag} {mg : Str → Option Value} {base : Heap} (T : Tx K mg) : FnG P w K mg base 1 (a_l_cell K) ["script", "k"] spCell := by
  refine T.f_l_cell.ok sc_l_cell (fun vs H Q E h => ?_) (fun cdv A outer s H vs Q E hgu hr h => ⟨_, (pss_cons (ps_if (pt_cmpR op_lt (pv 1) (pe_callB (call_lenU) (by rfl) T.n_len boot_len (pa_cons (pv 0) pa_nil)) (nomark _)) (pss_one (ps_ret (pe_ix ix_U (pv 0) (pv 1) (fun _ _ => rfl)))) pss_nil)
 (pss_one (ps_ret (pe_op op_addU (pe_op op_mulU pe_int (pv 1)) pe_int)))), ?_⟩)
  · obtain ⟨l, o, k, ns, R, D, rfl, _⟩ := h
    rfl
  · obtain ⟨l, o, k, ns, R, D, rfl, hi, hl, k0, k1, go⟩ := h
    wtm_at "go"
    refine if_dec (fun h => ?_) (fun h => ?_)
    · wtm_at "sx"
      rw [List.length_map] at h
      obtain ⟨j, rfl⟩ := Int.eq_ofNat_of_zero_le k0
      have hj : j < ns.length := by omega
      refine RIx.f (by wtm_at "hp") (atI_map (List.getElem?_eq_getElem hj)) ?_
      exact go _ _ (by assumption)
    · wtm_at "sx"
      exact go _ _ (by assumption)
set_option maxHeartbeats 400000 in
theorem ok_l_box {P : Program} {w : World} {K : PySem.W.Frag} {mg : Str → Option Value} {base : Heap} (T : Tx K mg) : FnG P w K mg base 1 (a_l_box K) ["cell"] spBox := by
  refine T.f_l_box.ok sc_l_box (fun vs H Q E h => ?_) (fun cdv A outer s H vs Q E hgu hr h => ⟨_, (pss_one (ps_ret (pe_lstM (pa_cons (pe_callB (call_maxU rfl) (by rfl) T.n_max boot_max (pa_cons pe_int (pa_cons (pe_op op_sub (pv 0) (pe_op op_pow pe_int pe_int)) pa_nil))) (pa_cons (pe_op op_mod (pv 0) pe_int) (pa_cons pe_int pa_nil)))))), ?_⟩)
  · obtain ⟨c, R, D, rfl, _⟩ := h
    rfl
  · obtain ⟨c, R, D, rfl, hi, go⟩ := h
    wtm_at "go"
    wtm_at "sxm"
    exact go _ _ _ _ (by assumption) ⟨by omega, by omega, by omega, by omega, by omega⟩
theorem cell_now {l : Addr} {o : Obj} {k : Int} {ns : List Int} {R : Cells} {D H : Hp} {Q : VK} {E : XK} (hi : HI H R D) (hl : D l = some (.frz o (.lst (ns.map V.int)))) (k0 : 0 ≤ k) (k1 : k < 1000) (q : ∀ c H', HI H' R D → Q (.int c) H') : spCell ([V.ref l, V.int k] ++ []) H Q E := ⟨l, o, k, ns, R, D, rfl, hi, hl, k0, k1, q⟩
theorem box_now {c : Int} {R : Cells} {D H : Hp} {Q : VK} {E : XK} (hi : HI H R D) (q : ∀ b x y H', HI H' ((b, bx x y 0) :: R) D → BoxOk 0 x y 0 → Q (.ref b) H') : spBox ([V.int c] ++ []) H Q E := ⟨c, R, D, rfl, hi, q⟩
local macro_rules | `(tactic| wtm_at "s2") => `(tactic| fail)
local macro_rules | `(tactic| wtm_at "s2") => `(tactic| first
  | wtm_at "s1"
  | with_reducible refine se_call1 ?_
  | with_reducible refine se_callN ?_
  | with_reducible refine se_dnewK ?_
  | ((with_reducible refine' se_disp ?e1 ?_); (case e1 => assumption); intro _ _ _)
  | with_reducible refine sp_cons ?_
  | with_reducible refine sp_nil ?_
  | ((with_reducible refine' disp_now ?e1 ?e2 ?e3 ?_); (case e1 => assumption); (case e2 => rfl); (case e3 => exact Nat.le_of_ble_eq_true rfl); intro _ _ _ _ _)
  | ((with_reducible refine' RAdd.lst ?e1 ?e2 ?e3 ?_); (case e1 => wtm_at "hp"); (case e2 => wtm_at "hp"); (case e3 => exact small_ok (Nat.le_of_ble_eq_true rfl)))
  | ((with_reducible refine' RMul.lst ?e1 ?e2 ?e3 ?e4 ?_); (case e1 => wtm_at "hp"); (case e2 => omega); (case e3 => omega); (case e4 => exact small_ok (Nat.le_of_ble_eq_true rfl)))
  | ((with_reducible refine' RStr.int ?e1 ?_); (case e1 => exact log2_small (by omega)))
  | ((with_reducible refine' RSl.str ?e1 ?_); (case e1 => first | exact small_ok (by omega) | exact small_ok (Nat.le_of_ble_eq_true rfl)))
  | ((with_reducible refine' RAdd.str ?e1 ?_); (case e1 => exact small_ok (by omega)))
  | ((with_reducible refine' take_now ?e1 ?e2 ?e3 ?e4 ?e5 ?_); (case e1 => wtm_at "hi"); (case e2 => omega); (case e3 => omega); (case e4 => assumption); (case e5 => omega); intro _ _ _ _ _ _ _ _ _))
local macro_rules | `(tactic| wtm_at "sy") => `(tactic| fail)
local macro_rules | `(tactic| wtm_at "sy") => `(tactic| repeat (wtm_at "s2"; try dsimp only [List.set, Int.reduceToNat]))
local macro_rules | `(tactic| wtm_at "sz1") => `(tactic| fail)
local macro_rules | `(tactic| wtm_at "sz1") => `(tactic| first
  | ((with_reducible refine' rsl_some ?e1 ?e2 ?_); (case e1 => omega); (case e2 => assumption); intro _ _ _)
  | ((with_reducible refine' radd_some ?e1 ?e2 ?e3 ?_); (case e1 => omega); (case e2 => assumption); (case e3 => assumption); intro _ _ _)
  | ((with_reducible refine' rmul_some ?e1 ?e3 ?e4 ?e5 ?_); (case e1 => rfl); (case e3 => omega); (case e4 => omega); (case e5 => exact sg_of rfl); intro _ _ _)
  | wtm_at "s2")
local macro_rules | `(tactic| wtm_at "sz") => `(tactic| fail)
local macro_rules | `(tactic| wtm_at "sz") => `(tactic| repeat (wtm_at "sz1"; try dsimp only [List.set, Int.reduceToNat]))
local macro_rules | `(tactic| wtm_at "s3x1") => `(tactic| fail)
local macro_rules | `(tactic| wtm_at "s3x1") => `(tactic| first
  | with_reducible refine se_fld ?_
  | with_reducible refine st_fld ?_
  | ((with_reducible refine' fld_mk ?e1 ?e2 ?e3 ?e4 ?_); (case e1 => wtm_at "hp"); (case e2 => assumption); (case e3 => wtm_at "mem"); (case e4 => rfl))
  | ((with_reducible refine' sfld_now ?e1 ?e2 ?e3 ?e4 ?_); (case e1 => wtm_at "hi"); (case e2 => assumption); (case e3 => wtm_at "mem"); (case e4 => exact Nat.lt_of_lt_of_le (Nat.lt_succ_self _) (Nat.le_of_ble_eq_true rfl)); intro _ _)
  | with_reducible refine se_meth ?_
  | with_reducible refine se_methN ?_
  | ((with_reducible refine' meth_mk ?e1 ?e2 ?_); (case e1 => wtm_at "hp"); (case e2 => rfl))
  | with_reducible refine se_make ?_
  | with_reducible refine se_makeN ?_
  | ((with_reducible refine' make_now ?e1 ?_); (case e1 => assumption); intro _ _ _ _)
  | with_reducible refine se_fmt ?_
  | ((with_reducible refine' RFmt.str ?e1 ?_); (case e1 => omega)))
local macro_rules | `(tactic| wtm_at "s3x2") => `(tactic| fail)
local macro_rules | `(tactic| wtm_at "s3x2") => `(tactic| first
  | ((with_reducible refine' RFmt.int ?e1 ?_); (case e1 => exact log2_small (by omega)))
  | with_reducible refine sj_nil ?_
  | with_reducible refine sj_cons ?_
  | ((with_reducible refine' js_mk ?e1 ?_); (case e1 => omega))
  | ((with_reducible refine' and_on ?e1 ?_); (case e1 => exact small_ok (by simp only [len_app]; omega))))
local macro_rules | `(tactic| wtm_at "s3") => `(tactic| fail)
local macro_rules | `(tactic| wtm_at "s3") => `(tactic| first
  | wtm_at "s2"
  | wtm_at "s3x1"
  | wtm_at "s3x2")
local macro_rules | `(tactic| wtm_at "sc") => `(tactic| fail)
local macro_rules | `(tactic| wtm_at "sc") => `(tactic| repeat (wtm_at "s3"; try dsimp only [List.set, Int.reduceToNat]))
local macro_rules | `(tactic| wtm_at "s4") => `(tactic| fail)
local macro_rules | `(tactic| wtm_at "s4") => `(tactic| first
  | wtm_at "s3"
  | with_reducible refine se_bm ?_
  | with_reducible refine se_bm0 ?_
  | ((with_reducible refine' bm_ty ?e1 ?_); (case e1 => wtm_at "hp"))
  | ((with_reducible refine' app_now ?e1 ?e2 ?_); (case e1 => wtm_at "hi"); (case e2 => first | omega | exact Nat.lt_of_lt_of_le (Nat.lt_succ_self _) (Nat.le_of_ble_eq_true rfl)); intro _ _))
local macro_rules | `(tactic| wtm_at "sd") => `(tactic| fail)
local macro_rules | `(tactic| wtm_at "sd") => `(tactic| repeat (wtm_at "s4"; try dsimp only [List.set, Int.reduceToNat]))
local macro_rules | `(tactic| wtm_at "s5x0") => `(tactic| fail)
local macro_rules | `(tactic| wtm_at "s5x0") => `(tactic| first
  | with_reducible refine rne_same ?_
  | with_reducible refine req_same ?_)
local macro_rules | `(tactic| wtm_at "s5x2") => `(tactic| fail)
local macro_rules | `(tactic| wtm_at "s5x2") => `(tactic| first
  | ((with_reducible refine' if_kT ?e1 ?_); (case e1 => first | assumption | rfl))
  | ((with_reducible refine' if_kF ?e1 ?_); (case e1 => first | assumption | rfl))
  | ((with_reducible refine' if_nkT ?e1 ?_); (case e1 => first | assumption | rfl))
  | ((with_reducible refine' if_nkF ?e1 ?_); (case e1 => first | assumption | rfl))
  | ((with_reducible refine' if_tagF ?e1 ?_); (case e1 => rfl))
  | ((with_reducible refine' if_tagN ?e1 ?_); (case e1 => rfl))
  | ((with_reducible refine' if_yes ?e1 ?_); (case e1 => with_reducible rfl))
  | ((with_reducible refine' if_yesN ?e1 ?_); (case e1 => with_reducible rfl))
  | with_reducible refine if_notT ?_
  | with_reducible refine if_notF ?_
  | with_reducible refine it_zip ?_
  | with_reducible refine it_enum ?_)
local macro_rules | `(tactic| wtm_at "s5x3") => `(tactic| fail)
local macro_rules | `(tactic| wtm_at "s5x3") => `(tactic| first
  | with_reducible refine it_tup ?_
  | ((with_reducible refine' zip_mk ?e1 ?e2 ?_); (case e1 => wtm_at "hp"); (case e2 => wtm_at "hp"))
  | ((with_reducible refine' enum_mk ?e1 ?_); (case e1 => wtm_at "hp"))
  | ((with_reducible refine' tupI_mk ?e1 ?_); (case e1 => wtm_at "hp"))
  | with_reducible refine st_try ?_
  | with_reducible refine se_by ?_
  | ((with_reducible refine' RTupO.l ?e1 ?_); (case e1 => wtm_at "hp"))
  | ((with_reducible refine' RListO.l ?e1 ?_); (case e1 => wtm_at "hp"))
  | ((with_reducible refine' RListO.t ?e1 ?_); (case e1 => wtm_at "hp"))
  | ((with_reducible refine' RListM.l ?e1 ?_); (case e1 => wtm_at "hp")))
local macro_rules | `(tactic| wtm_at "s5") => `(tactic| fail)
local macro_rules | `(tactic| wtm_at "s5") => `(tactic| first
  | wtm_at "s5x0"
  | wtm_at "s4"
  | wtm_at "s5x2"
  | wtm_at "s5x3")
local macro_rules | `(tactic| wtm_at "se") => `(tactic| fail)
local macro_rules | `(tactic| wtm_at "se") => `(tactic| repeat (wtm_at "s5"; try dsimp only [List.set, Int.reduceToNat]))
local macro_rules | `(tactic| wtm_at "sl") => `(tactic| fail)
local macro_rules | `(tactic| wtm_at "sl") => `(tactic| first
  | exact List.Sublist.refl _
  | (refine List.Sublist.cons₂ _ ?_; wtm_at "sl")
  | (refine List.Sublist.cons _ ?_; wtm_at "sl"))
local macro_rules | `(tactic| wtm_at "keep") => `(tactic| fail)
local macro_rules | `(tactic| wtm_at "keep") => `(tactic| exact HI.sublist (by assumption) (by wtm_at "sl"))
local macro_rules | `(tactic| wtm_at "s6x1") => `(tactic| fail)
local macro_rules | `(tactic| wtm_at "s6x1") => `(tactic| first
  | with_reducible refine se_dget2 ?_
  | with_reducible refine ip_mk ?_
  | with_reducible refine se_dnewM ?_
  | with_reducible refine se_dget1 ?_
  | ((with_reducible refine' dg_mk ?e1 ?_); (case e1 => wtm_at "hp"))
  | ((with_reducible refine' dq_i ?e1 ?_); (case e1 => wtm_at "hp"))
  | ((with_reducible refine' dq_s ?e1 ?_); (case e1 => wtm_at "hp"))
  | with_reducible refine se_dsub ?_
  | with_reducible refine se_din ?_
  | with_reducible refine se_dni ?_
  | ((with_reducible refine' di_i ?e1 ?_); (case e1 => wtm_at "hp"))
  | ((with_reducible refine' di_s ?e1 ?_); (case e1 => wtm_at "hp")))
local macro_rules | `(tactic| wtm_at "s6x2") => `(tactic| fail)
local macro_rules | `(tactic| wtm_at "s6x2") => `(tactic| first
  | with_reducible refine st_dput ?_
  | ((with_reducible refine' dp_i ?e1 ?e2 ?_); (case e1 => wtm_at "hi"); (case e2 => omega); intro _ _)
  | ((with_reducible refine' dp_s ?e1 ?e2 ?_); (case e1 => wtm_at "hi"); (case e2 => omega); intro _ _)
  | with_reducible refine se_dpop1 ?_
  | with_reducible refine it_seq ?_
  | ((with_reducible refine' seq_l ?e1 ?_); (case e1 => wtm_at "hp"))
  | ((with_reducible refine' seq_t ?e1 ?_); (case e1 => wtm_at "hp")))
local macro_rules | `(tactic| wtm_at "s6") => `(tactic| fail)
local macro_rules | `(tactic| wtm_at "s6") => `(tactic| first
  | wtm_at "s5"
  | wtm_at "s6x1"
  | wtm_at "s6x2")
local macro_rules | `(tactic| wtm_at "sg") => `(tactic| fail)
local macro_rules | `(tactic| wtm_at "sg") => `(tactic| repeat (wtm_at "s6"; try dsimp only [List.set, Int.reduceToNat]))
local macro_rules | `(tactic| wtm_at "s7") => `(tactic| fail)
local macro_rules | `(tactic| wtm_at "s7") => `(tactic| first
  | wtm_at "s6"
  | with_reducible refine st_augS ?_
  | with_reducible refine se_revL ?_
  | ((with_reducible refine' rv_mk ?e1 ?_); (case e1 => wtm_at "hp"))
  | ((with_reducible refine' RGetL.l ?e1 ?e2 ?e3 ?_); (case e1 => wtm_at "hp"); (case e2 => omega); (case e3 => assumption)))
local macro_rules | `(tactic| wtm_at "sh") => `(tactic| fail)
local macro_rules | `(tactic| wtm_at "sh") => `(tactic| repeat (wtm_at "s7"; try dsimp only [List.set, Int.reduceToNat]))
local macro_rules | `(tactic| wtm_at "s8") => `(tactic| fail)
local macro_rules | `(tactic| wtm_at "s8") => `(tactic| first
  | wtm_at "s7"
  | with_reducible refine se_fmtO ?_)
local macro_rules | `(tactic| wtm_at "si") => `(tactic| fail)
local macro_rules | `(tactic| wtm_at "si") => `(tactic| repeat (wtm_at "s8"; try dsimp only [List.set, Int.reduceToNat]))
local macro_rules | `(tactic| wtm_at "hi") => `(tactic| exact HI.up4 (by assumption))
local macro_rules | `(tactic| wtm_at "s9x0") => `(tactic| fail)
local macro_rules | `(tactic| wtm_at "s9x0") => `(tactic| first
  | ((with_reducible refine' disp_nowM ?e1 ?e2 ?e3 ?_); (case e1 => assumption); (case e2 => rfl); (case e3 => exact Nat.le_of_ble_eq_true rfl); intro _ _))
local macro_rules | `(tactic| wtm_at "s9x2") => `(tactic| fail)
local macro_rules | `(tactic| wtm_at "s9x2") => `(tactic| first
  | with_reducible refine st_par3 ?_
  | with_reducible refine par3_mk ?_
  | with_reducible refine se_mkQ ?_
  | ((with_reducible refine' mkQ_now ?e1 ?_); (case e1 => assumption); intro _ _ _ _ _ _ _ _ _ _)
  | ((with_reducible refine' se_dispM ?e1 ?_); (case e1 => assumption); intro _ _ _))
local macro_rules | `(tactic| wtm_at "s9") => `(tactic| fail)
local macro_rules | `(tactic| wtm_at "s9") => `(tactic| first
  | wtm_at "s9x0"
  | wtm_at "s8"
  | wtm_at "s9x2")
local macro_rules | `(tactic| wtm_at "sj") => `(tactic| fail)
local macro_rules | `(tactic| wtm_at "sj") => `(tactic| repeat (wtm_at "s9"; try dsimp only [List.set, Int.reduceToNat]))
local macro_rules | `(tactic| wtm_at "s11") => `(tactic| fail)
local macro_rules | `(tactic| wtm_at "s11") => `(tactic| first
  | wtm_at "s9"
  | with_reducible refine it_enumF ?_
  | ((with_reducible refine' enumF_mk ?e1 ?e2 ?_); (case e1 => wtm_at "hp"); (case e2 => decide))
  | with_reducible refine it_rng3 ?_
  | ((with_reducible refine' rng3_dn ?e1 ?_); (case e1 => omega))
  | with_reducible refine it_items ?_)
local macro_rules | `(tactic| wtm_at "sm") => `(tactic| fail)
local macro_rules | `(tactic| wtm_at "sm") => `(tactic| repeat (wtm_at "s11"; try dsimp only [List.set, Int.reduceToNat]))
local macro_rules | `(tactic| wtm_at "s12") => `(tactic| fail)
local macro_rules | `(tactic| wtm_at "s12") => `(tactic| first
  | wtm_at "s11"
  | with_reducible refine se_lrg ?_
  | ((with_reducible refine' lrg_mk ?e1 ?_); (case e1 => exact RgOk.of_le (by omega) (by omega) (by omega) (by omega))))
local macro_rules | `(tactic| wtm_at "sn") => `(tactic| fail)
local macro_rules | `(tactic| wtm_at "sn") => `(tactic| repeat (wtm_at "s12"; try dsimp only [List.set, Int.reduceToNat]))
def wholeB : V → Int → Int → Bool
  | .int i, lo, hi => decide (lo ≤ i) && decide (i ≤ hi)
  | _, _, _ => false
def spWhole (K : PySem.W.Frag) : Sp := fun vs H Q _ => ∃ (v : V) (lo hi : Int) (R : Cells) (D : Hp), vs = [v, .int lo, .int hi] ∧ HI H R D ∧ Mt K R D v ∧ ∀ H', HI H' R D → Q (.bl (wholeB v lo hi)) H'
set_option maxHeartbeats 400000 in
theorem ok_is_whole {P : Program} {w : World} {K : PySem.W.Frag} {mg : Str → Option Value} {base : Heap} (T : Tx K mg) : FnG P w K mg base 1 (a_is_whole K) ["thing", "low", "high"] (spWhole K) := by
  refine T.f_is_whole.ok sc_is_whole (fun vs H Q E h => ?_) (fun cdv A outer s H vs Q E hgu hr h => ⟨_, (pss_one (ps_ret (pe_and (pe_callB (show CallR _ (.builtin "isinstance") (RIsi K) from call_isiU) (by rfl) T.n_isinstance boot_isinstance (pa_cons (pv 0) (pa_cons (pe_bltn (v := .ty "int") (by rfl) T.n_int boot_int rfl) pa_nil))) (pe_and (pe_not (pe_callB (show CallR _ (.builtin "isinstance") (RIsi K) from call_isiU) (by rfl) T.n_isinstance boot_isinstance (pa_cons (pv 0) (pa_cons (pe_bltn (v := .ty "bool") (by rfl) T.n_bool boot_bool rfl) pa_nil)))) (pe_one (pe_chain op_le op_le (pv 1) (pv 0) (pv 2))))))), ?_⟩)
  · obtain ⟨v, lo, hi, R, D, rfl, _⟩ := h
    rfl
  · obtain ⟨v, lo, hi, R, D, rfl, hI, mt, go⟩ := h
    obtain ⟨⟨k, kn⟩, _⟩ := mt.kn hI
    wtm_at "go"
    rcases kn.told with ⟨rfl, rfl⟩ | ⟨b, rfl, rfl⟩ | ⟨i, rfl, rfl⟩ | ⟨z, rfl, rfl⟩ | ⟨a, rfl, hk⟩
    · exact go _ (by assumption)
    · refine iteT ?_
      wtm_at "sx"
      refine iteF ?_
      exact go _ (by assumption)
    · refine iteT ?_
      wtm_at "sx"
      refine iteT ?_
      wtm_at "sx"
      have g : Q (.bl (decide (lo ≤ i) && decide (i ≤ hi))) H := go _ (by assumption)
      refine if_dec (fun h => ?_) (fun h => ?_)
      · wtm_at "sx"
        rw [decide_eq_true h, Bool.true_and] at g
        exact g
      · rw [decide_eq_false h, Bool.false_and] at g
        exact g
    · exact go _ (by assumption)
    · have g := go _ (by assumption)
      rcases hk with rfl | rfl | rfl | rfl <;> exact g
theorem whole_use {K : PySem.W.Frag} {v : V} {lo hi : Int} {R : Cells} {D H : Hp} {Q : VK} {E : XK} (h : HI H R D) (mt : Mt K R D v) (q : ∀ H', HI H' R D → Q (.bl (wholeB v lo hi)) H') : spWhole K [v, .int lo, .int hi] H Q E := ⟨v, lo, hi, R, D, rfl, h, mt, q⟩
theorem whole_is {v : V} {lo hi : Int} (h : wholeB v lo hi = true) : ∃ i, v = .int i ∧ lo ≤ i ∧ i ≤ hi := by
  cases v with
  | int i =>
    obtain ⟨a, b⟩ := He.ba (show (decide (lo ≤ i) && decide (i ≤ hi)) = true from h)
    exact ⟨i, rfl, of_decide_eq_true a, of_decide_eq_true b⟩
  | _ => cases h
theorem whole_ok {i lo hi : Int} (h0 : lo ≤ i) (h1 : i ≤ hi) : wholeB (.int i) lo hi = true := by
  show (decide (lo ≤ i) && decide (i ≤ hi)) = true
  rw [decide_eq_true h0, decide_eq_true h1]
  rfl
structure WOk (p : Int × Int) : Prop where
  w0 : 0 ≤ p.1
  w1 : p.1 ≤ 400
  c0 : -60 ≤ p.2
  c1 : p.2 ≤ 60
def PairAt (D : Hp) (v : V) (p : Int × Int) : Prop := ∃ q, v = .ref q ∧ D q = some (.tup [.int p.1, .int p.2])
theorem PairAt.mono {D D' : Hp} {v : V} {p : Int × Int} (h : PairAt D v p) (x : Ex D D') : PairAt D' v p := by
  obtain ⟨q, e, h⟩ := h
  exact ⟨q, e, x _ _ h⟩
/-- a list of pairs -/
inductive PairsL (D : Hp) : List V → List (Int × Int) → Prop
  | nil : PairsL D [] []
  | cons {v : V} {xs : List V} {p : Int × Int} {ns : List (Int × Int)} : PairAt D v p → PairsL D xs ns → PairsL D (v :: xs) (p :: ns)
theorem PairsL.mono {D D' : Hp} (x : Ex D D') : ∀ {xs : List V} {ns : List (Int × Int)}, PairsL D xs ns → PairsL D' xs ns
  | _, _, .nil => .nil
  | _, _, .cons h l => .cons (h.mono x) (PairsL.mono x l)
theorem PairsL.length {D : Hp} : ∀ {xs : List V} {ns : List (Int × Int)}, PairsL D xs ns → xs.length = ns.length
  | _, _, .nil => rfl
  | _, _, .cons _ l => congrArg Nat.succ (PairsL.length l)
theorem PairsL.get {D : Hp} : ∀ {xs : List V} {ns : List (Int × Int)} {i : Nat} {p : Int × Int}, PairsL D xs ns → ns[i]? = some p → ∃ v, xs[i]? = some v ∧ PairAt D v p
  | _, _, _, _, .nil, e => by simp at e
  | _, _, 0, _, .cons h _, e => by
    simp at e
    subst e
    exact ⟨_, rfl, h⟩
  | _, _, i + 1, _, .cons _ l, e => by
    obtain ⟨v, a, b⟩ := PairsL.get (i := i) l (by simpa using e)
    exact ⟨v, by simpa using a, b⟩
theorem PairsL.getV {D : Hp} : ∀ {xs : List V} {ns : List (Int × Int)} {i : Nat} {v : V}, PairsL D xs ns → xs[i]? = some v → ∃ p, ns[i]? = some p ∧ PairAt D v p
  | _, _, _, _, .nil, e => by simp at e
  | _, _, 0, _, .cons h _, e => by
    simp at e
    subst e
    exact ⟨_, rfl, h⟩
  | _, _, i + 1, _, .cons _ l, e => by
    obtain ⟨p, a, b⟩ := PairsL.getV (i := i) l (by simpa using e)
    exact ⟨p, by simpa using a, b⟩
theorem PairsL.snoc {D : Hp} {v : V} {p : Int × Int} (h : PairAt D v p) : ∀ {xs : List V} {ns : List (Int × Int)}, PairsL D xs ns → PairsL D (xs ++ [v]) (ns ++ [p])
  | _, _, .nil => .cons h .nil
  | _, _, .cons a l => .cons a (PairsL.snoc h l)
theorem PairsL.app {D : Hp} {ys : List V} {ms : List (Int × Int)} (h : PairsL D ys ms) : ∀ {xs : List V} {ns : List (Int × Int)}, PairsL D xs ns → PairsL D (xs ++ ys) (ns ++ ms)
  | _, _, .nil => h
  | _, _, .cons a l => .cons a (PairsL.app h l)
theorem PairsL.take {D : Hp} : ∀ {xs : List V} {ns : List (Int × Int)} (k : Nat), PairsL D xs ns → PairsL D (xs.take k) (ns.take k)
  | _, _, 0, _ => .nil
  | _, _, _ + 1, .nil => .nil
  | _, _, k + 1, .cons a l => .cons a (PairsL.take k l)
theorem PairsL.drop {D : Hp} : ∀ {xs : List V} {ns : List (Int × Int)} (k : Nat), PairsL D xs ns → PairsL D (xs.drop k) (ns.drop k)
  | _, _, 0, h => h
  | _, _, _ + 1, .nil => .nil
  | _, _, k + 1, .cons _ l => PairsL.drop k l
def IsYr (K : PySem.W.Frag) (D : Hp) (a nl td : Addr) (ns : List (Int × Int)) : Prop :=
  (∃ dx, D a = some (.ins (He.ga K "Year") dx [("kept_normal", .ref nl), ("kept_told", .ref td)])) ∧ (∃ xs, D nl = some (.lst xs) ∧ PairsL D xs ns) ∧ 1 ≤ ns.length ∧ ns.length ≤ 52 ∧ ∀ p ∈ ns, WOk p
theorem IsYr.mono {K : PySem.W.Frag} {D D' : Hp} {a nl td : Addr} {ns : List (Int × Int)} (h : IsYr K D a nl td ns) (x : Ex D D') : IsYr K D' a nl td ns := by
  obtain ⟨⟨dx, e⟩, ⟨xs, e2, pl⟩, r⟩ := h
  exact ⟨⟨dx, x _ _ e⟩, ⟨xs, x _ _ e2, pl.mono x⟩, r⟩
/-- what is told of it -/
structure Told (D : Hp) (kvs : List (Key × V)) (m : Int → Option (Int × Int)) (n : Int) : Prop where
  no : ∀ k, m k = none → valV kvs (.inl k) = none
  yes : ∀ k p, m k = some p → ∃ v, valV kvs (.inl k) = some v ∧ PairAt D v p ∧ WOk p ∧ 1 ≤ k ∧ k ≤ n
  ks : ∃ ks : List Int, kvs.map (·.1) = ks.map Sum.inl ∧ ks.Nodup ∧ ∀ k ∈ ks, 1 ≤ k ∧ k ≤ n
theorem Told.mono {D D' : Hp} {kvs : List (Key × V)} {m : Int → Option (Int × Int)} {n : Int} (h : Told D kvs m n) (x : Ex D D') : Told D' kvs m n :=
  ⟨h.no, fun k p e => let ⟨v, a, b, c⟩ := h.yes k p e; ⟨v, a, b.mono x, c⟩, h.ks⟩
/-- a week as it stands -/
def stand (ns : List (Int × Int)) (m : Int → Option (Int × Int)) (k : Int) : Int × Int := (m k).getD (ns.getD (k - 1).toNat (0, 0))
/-- the year at a stands so: n weeks, the k-th as f k -/
def YrAt (K : PySem.W.Frag) (R : Cells) (D : Hp) (a : Addr) (f : Int → Int × Int) (n : Int) : Prop := ∃ nl td ns kvs m, IsYr K D a nl td ns ∧ ((td, HO.dK kvs) : Addr × HO) ∈ R ∧ Told D kvs m n ∧ n = (ns.length : Int) ∧ ∀ k, 1 ≤ k → k ≤ n → f k = stand ns m k
theorem YrAt.mono {K : PySem.W.Frag} {R : Cells} {D D' : Hp} {a : Addr} {f : Int → Int × Int} {n : Int} (h : YrAt K R D a f n) (x : Ex D D') : YrAt K R D' a f n := by
  obtain ⟨nl, td, ns, kvs, m, i, mm, t, e, g⟩ := h
  exact ⟨nl, td, ns, kvs, m, i.mono x, mm, t.mono x, e, g⟩
theorem YrAt.sub {K : PySem.W.Frag} {R R' : Cells} {D : Hp} {a : Addr} {f : Int → Int × Int} {n : Int} (h : YrAt K R D a f n) (s : ∀ q ∈ R, q ∈ R') : YrAt K R' D a f n := by
  obtain ⟨nl, td, ns, kvs, m, i, mm, r⟩ := h
  exact ⟨nl, td, ns, kvs, m, i, s _ mm, r⟩
theorem YrAt.cell {K : PySem.W.Frag} {R : Cells} {D : Hp} {a : Addr} {f : Int → Int × Int} {n : Int} {c : Addr × HO} (h : YrAt K R D a f n) : YrAt K (c :: R) D a f n := h.sub fun _ q => List.mem_cons_of_mem _ q
theorem YrAt.nn {K : PySem.W.Frag} {R : Cells} {D : Hp} {a : Addr} {f : Int → Int × Int} {n : Int} (h : YrAt K R D a f n) : 1 ≤ n ∧ n ≤ 52 := by
  obtain ⟨nl, td, ns, kvs, m, ⟨_, _, h0, h1, _⟩, mm, t, e, g⟩ := h
  omega
theorem YrAt.ok {K : PySem.W.Frag} {R : Cells} {D : Hp} {a : Addr} {f : Int → Int × Int} {n : Int} (h : YrAt K R D a f n) {k : Int} (k0 : 1 ≤ k) (k1 : k ≤ n) : WOk (f k) := by
  obtain ⟨nl, td, ns, kvs, m, ⟨_, _, h0, h1, hw⟩, mm, t, e, g⟩ := h
  rw [g k k0 k1]
  unfold stand
  cases em : m k with
  | some p =>
    obtain ⟨v, _, _, w, _⟩ := t.yes k p em
    exact w
  | none =>
    show WOk (ns.getD (k - 1).toNat (0, 0))
    have : (k - 1).toNat < ns.length := by omega
    rw [List.getD_eq_getElem?_getD, List.getElem?_eq_getElem this]
    exact hw _ (List.getElem_mem this)
def spWhl (K : PySem.W.Frag) (lo hi : Int) : Sp := fun vs H Q _ => ∃ (v : V) (R : Cells) (D : Hp), vs = [v] ∧ HI H R D ∧ Mt K R D v ∧ ∀ H', HI H' R D → Q (.bl (wholeB v lo hi)) H'
theorem whl_use {K : PySem.W.Frag} {lo hi : Int} {v : V} {R : Cells} {D H : Hp} {Q : VK} {E : XK} (h : HI H R D) (mt : Mt K R D v) (q : ∀ H', HI H' R D → Q (.bl (wholeB v lo hi)) H') : spWhl K lo hi [v] H Q E := ⟨v, R, D, rfl, h, mt, q⟩
theorem ok_is_warmth {P : Program} {w : World} {K : PySem.W.Frag} {mg : Str → Option Value} {base : Heap} (T : Tx K mg) : FnG P w K mg base 2 (a_is_warmth K) ["thing"] (spWhl K 0 400) := by
  refine T.f_is_warmth.ok sc_is_warmth (fun vs H Q E h => ?_) (fun cdv A outer s H vs Q E hgu hr h => ⟨_, (pss_one (ps_ret (ge_call (ok_is_whole T) hgu (hr.mono (by decide)) rfl T.g_is_whole T.k_is_whole T.b_is_whole .nil (fun _ => pass_takes (takes_of rfl rfl rfl rfl)) (pa_cons (pv 0) (pa_cons pe_int (pa_cons (pe_gi rfl T.c_MOST_WARMTH) pa_nil)))))), ?_⟩)
  · obtain ⟨v, R, D, rfl, _⟩ := h
    rfl
  · obtain ⟨v, R, D, rfl, hI, mt, go⟩ := h
    wtm_at "go"
    wtm_at "sg"
    exact whole_use hI mt go
theorem ok_is_cold {P : Program} {w : World} {K : PySem.W.Frag} {mg : Str → Option Value} {base : Heap} (T : Tx K mg) : FnG P w K mg base 2 (a_is_cold K) ["thing"] (spWhl K (-60) 60) := by
  refine T.f_is_cold.ok sc_is_cold (fun vs H Q E h => ?_) (fun cdv A outer s H vs Q E hgu hr h => ⟨_, (pss_one (ps_ret (ge_call (ok_is_whole T) hgu (hr.mono (by decide)) rfl T.g_is_whole T.k_is_whole T.b_is_whole .nil (fun _ => pass_takes (takes_of rfl rfl rfl rfl)) (pa_cons (pv 0) (pa_cons (pe_op op_sub pe_int (pe_gi rfl T.c_MOST_COLD)) (pa_cons (pe_gi rfl T.c_MOST_COLD) pa_nil)))))), ?_⟩)
  · obtain ⟨v, R, D, rfl, _⟩ := h
    rfl
  · obtain ⟨v, R, D, rfl, hI, mt, go⟩ := h
    wtm_at "go"
    wtm_at "sg"
    exact whole_use hI mt go
/-- a pair is one -/
def spPairG : Sp := fun vs H Q _ => ∃ (v : V) (p : Int × Int) (R : Cells) (D : Hp), vs = [v] ∧ HI H R D ∧ PairAt D v p ∧ WOk p ∧ ∀ H', HI H' R D → Q (.bl true) H'
theorem ok_is_pair {P : Program} {w : World} {K : PySem.W.Frag} {mg : Str → Option Value} {base : Heap} (T : Tx K mg) : FnG P w K mg base 3 (a_is_pair K) ["thing"] spPairG := by
  refine T.f_is_pair.ok sc_is_pair (fun vs H Q E h => ?_) (fun cdv A outer s H vs Q E hgu hr h => ⟨_, (pss_one (ps_ret (pe_and (pe_callB (show CallR _ (.builtin "isinstance") (RIsi K) from call_isiU) (by rfl) T.n_isinstance boot_isinstance (pa_cons (pv 0) (pa_cons (pe_bltn (v := .ty "tuple") (by rfl) T.n_tuple boot_tuple rfl) pa_nil))) (pe_and (pe_cmpR (op_eqU hr.units) (pe_callB (call_lenU) (by rfl) T.n_len boot_len (pa_cons (pv 0) pa_nil)) pe_int (nomark _)) (pe_and (ge_call (ok_is_warmth T) hgu (hr.mono (by decide)) rfl T.g_is_warmth T.k_is_warmth T.b_is_warmth .nil (fun _ => pass_takes (takes_of rfl rfl rfl rfl)) (pa_cons (pe_ix ix_U (pv 0) pe_int (fun _ _ => rfl)) pa_nil)) (pe_one (ge_call (ok_is_cold T) hgu (hr.mono (by decide)) rfl T.g_is_cold T.k_is_cold T.b_is_cold .nil (fun _ => pass_takes (takes_of rfl rfl rfl rfl)) (pa_cons (pe_ix ix_U (pv 0) pe_int (fun _ _ => rfl)) pa_nil)))))))), ?_⟩)
  · obtain ⟨v, p, R, D, rfl, _⟩ := h
    rfl
  · obtain ⟨v, p, R, D, rfl, hI, ⟨q, rfl, eq⟩, w, go⟩ := h
    wtm_at "go"
    wtm_at "sg"
    refine if_yes rfl ?_
    wtm_at "sg"
    refine whl_use hI (Th.kn (.int _)).m (fun H1 hI1 => ?_)
    rw [whole_ok w.w0 w.w1]
    wtm_at "sg"
    refine whl_use hI1 (Th.kn (.int _)).m (fun H2 hI2 => ?_)
    rw [whole_ok w.c0 w.c1]
    exact go _ hI2
def yrF (nl td : Addr) : List (Str × V) := [("kept_normal", .ref nl), ("kept_told", .ref td)]
def spYearInit (K : PySem.W.Frag) : Sp := fun vs H Q _ => ∃ (x dx p : Addr) (xs : List V) (ns : List (Int × Int)) (R : Cells) (D : Hp), vs = [.ref x, .ref p] ∧ HI H ((x, .ins (He.ga K "Year") dx []) :: R) D ∧ Sq3 R D p xs ∧ PairsL D xs ns ∧ 1 ≤ ns.length ∧ ns.length ≤ 52 ∧ (∀ q ∈ ns, WOk q) ∧
  ∀ nl td H' D', HI H' ((td, .dK []) :: (x, .ins (He.ga K "Year") dx (yrF nl td)) :: R) D' → Ex D D' → D' nl = some (.lst xs) → Q .non H'
set_option maxHeartbeats 1000000 in
theorem ok_Year_init {P : Program} {w : World} {K : PySem.W.Frag} {mg : Str → Option Value} {base : Heap} (T : Tx K mg) : FnG P w K mg base 4 (a_Year_init K) ["self", "normal"] (spYearInit K) := by
  refine T.f_Year_init.ok sc_Year_init (fun vs H Q E h => ?_) (fun cdv A outer s H vs Q E hgu hr h => ⟨_, (pss_cons (ps_if (PW.pt (pw_or (pt_not (pt_val (pe_callB (show CallR _ (.builtin "isinstance") (RIsiT K) from call_isiTU) (by rfl) T.n_isinstance boot_isinstance (pa_cons (pv 1) (pa_cons (pe_tup (pa_cons (pe_bltn (v := .ty "list") (by rfl) T.n_list boot_list rfl) (pa_cons (pe_bltn (v := .ty "tuple") (by rfl) T.n_tuple boot_tuple rfl) pa_nil))) pa_nil))))) (pw_or1 (pt_not (pt_chain (op_le) (op_le) pe_int (pe_callB (call_lenU) (by rfl) T.n_len boot_len (pa_cons (pv 1) pa_nil)) (pe_gi rfl T.c_MOST_WEEKS)))))) (pss_one (ps_raiseX rfl (takes_of rfl rfl rfl rfl) T.x_NoYear (ok_NoYear_init T) T.b_NoYear_init (hr.mono (by decide)) rfl (pa_cons (pv 1) pa_nil))) pss_nil)
 (pss_cons (ps_if (pt_not (pt_val (pe_callB (call_allU rfl) (by rfl) T.n_all boot_all (pa_cons (pe_lc (own := [("thing", 2)]) rfl sc_Year_init.nd (pi_seq (pv 1)) (blkOk_by (own := [("thing", 2)]) (N := ["self", "normal", "thing"]) (sc := defScope s_Year_init) (by decide +kernel)) (fun _ _ _ _ _ => (pg_name (i := 2) sc_Year_init.nd rfl (by first | exact Or.inl rfl | exact Or.inr rfl))) (fun _ _ _ _ _ => pts_nil) (fun _ _ _ _ _ => (ge_call (ok_is_pair T) hgu (hr.mono (by decide)) rfl T.g_is_pair T.k_is_pair T.b_is_pair .nil (fun _ => pass_none) (pa_cons (pv 2) pa_nil)))) pa_nil)))) (pss_one (ps_raiseX rfl (takes_of rfl rfl rfl rfl) T.x_NoYear (ok_NoYear_init T) T.b_NoYear_init (hr.mono (by decide)) rfl (pa_cons (pv 1) pa_nil))) pss_nil)
 (pss_cons (ps_fld (pv 0) (pe_callTy call_listU (by rfl) T.n_list boot_list (pa_cons (pv 1) pa_nil)) rfl)
 (pss_one (ps_fld (pv 0) (pe_dnewM) rfl))))), ?_⟩)
  · obtain ⟨x, dx, p, xs, ns, R, D, rfl, _⟩ := h
    rfl
  · obtain ⟨x, dx, p, xs, ns, R, D, rfl, hI, sq, pl, l0, l1, wo, go⟩ := h
    have pc := T.pc_Year
    have hl := pl.length
    have sq' : Sq3 ((x, .ins (He.ga K "Year") dx []) :: R) D p xs := sq.sub fun _ q => List.mem_cons_of_mem _ q
    wtm_at "go"
    wtm_at "sg"
    refine Sq3.isi (by assumption) (sq'.mono (by wtm_at "ex")) (by wtm_at "hp") ?_
    wtm_at "sg"
    refine Sq3.len (by assumption) (sq'.mono (by wtm_at "ex")) ?_
    wtm_at "sg"
    rename_i pT H1 D1 hI1 x1 eT
    refine lc_seq (sq'.mono x1) (fun i acc R' D' => R' = _ ∧ D' = _ ∧ acc = (List.replicate i true).map V.bl) hI1 ⟨rfl, rfl, rfl⟩ (fun i acc R' D' q => ?_) (fun L i acc v R' D' H' hv hI' q hl2 => ?_) (fun L acc R' D' H' hI' q hl2 => ?_)
    · obtain ⟨rfl, rfl, rfl⟩ := q
      exact ⟨fun _ q => q, Ex.refl _⟩
    · obtain ⟨rfl, rfl, rfl⟩ := q
      obtain ⟨pp, e1, pa⟩ := pl.getV hv
      have hi : i < xs.length := (List.getElem?_eq_some_iff.mp hv).1
      wtm_at "sg"
      refine ⟨v, pp, _, _, rfl, hI', pa.mono x1, wo _ (List.mem_of_getElem? e1), fun H2 hI2 => ?_⟩
      exact le_mk hI2 ⟨rfl, rfl, by rw [List.replicate_succ', List.map_append]; rfl⟩ hl2 (by omega)
    · obtain ⟨rfl, rfl, rfl⟩ := q
      refine RAll.mk (hI'.get (List.mem_cons_self ..)) ?_
      have ea : (List.replicate xs.length true).all id = true := by simp
      rw [ea]
      have hI2 := hI'.drop
      wtm_at "sg"
      refine Sq3.list hI2 (sq'.mono x1) ?_
      wtm_at "sg"
      exact go _ _ _ _ (by wtm_at "hi") (by wtm_at "ex") (by assumption)
theorem make_yr {K : PySem.W.Frag} {x dx p : Addr} {xs : List V} {ns : List (Int × Int)} {R : Cells} {D H : Hp} {P : Hp → Prop} {E : XK} (hI : HI H ((x, .ins (He.ga K "Year") dx []) :: (dx, .own x) :: R) D) (sq : Sq3 R D p xs) (pl : PairsL D xs ns) (l0 : 1 ≤ ns.length) (l1 : ns.length ≤ 52) (wo : ∀ q ∈ ns, WOk q)
    (go : ∀ nl td H' D', HI H' ((td, .dK []) :: R) D' → Ex D D' → IsYr K D' x nl td ns → P H') : spYearInit K [.ref x, .ref p] H (fun v H2 => v = .non ∧ P H2) E := by
  refine ⟨x, dx, p, xs, ns, _, D, rfl, hI, sq.sub fun _ q => List.mem_cons_of_mem _ q, pl, l0, l1, wo, fun nl td H' D' h x1 e => ⟨rfl, ?_⟩⟩
  have h2 : HI H' ((x, .ins (He.ga K "Year") dx (yrF nl td)) :: (dx, .own x) :: (td, .dK []) :: R) D' := h.dn2
  obtain ⟨D2, h3, x2, e2⟩ := h2.freezeI
  exact go nl td _ _ h3 (x1.trans x2) ⟨⟨dx, e2⟩, ⟨xs, x2 _ _ e, pl.mono (x1.trans x2)⟩, l0, l1, wo⟩
def spYLen (K : PySem.W.Frag) : Sp := fun vs H Q _ => ∃ (a : Addr) (f : Int → Int × Int) (n : Int) (R : Cells) (D : Hp), vs = [.ref a] ∧ HI H R D ∧ YrAt K R D a f n ∧ Q (.int n) H
theorem ok_Year_len {P : Program} {w : World} {K : PySem.W.Frag} {mg : Str → Option Value} {base : Heap} (T : Tx K mg) : FnG P w K mg base 1 (a_Year_len K) ["self"] (spYLen K) := by
  refine T.f_Year_len.ok sc_Year_len (fun vs H Q E h => ?_) (fun cdv A outer s H vs Q E hgu hr h => ⟨_, (pss_one (ps_ret (pe_callB (call_lenU) (by rfl) T.n_len boot_len (pa_cons (pe_fld (pv 0) rfl) pa_nil)))), ?_⟩)
  · obtain ⟨a, f, n, R, D, rfl, _⟩ := h
    rfl
  · obtain ⟨a, f, n, R, D, rfl, hI, yr, go⟩ := h
    have pc := T.pc_Year
    obtain ⟨nl, td, ns, kvs, m, ⟨⟨dx, ea⟩, ⟨xs, en, pl⟩, _⟩, mt, told, rfl, hf⟩ := yr
    wtm_at "go"
    wtm_at "sg"
    rw [pl.length]
    exact go
def spNeedWeek (K : PySem.W.Frag) : Sp := fun vs H Q E => ∃ (a : Addr) (v : V) (f : Int → Int × Int) (n : Int) (R : Cells) (D : Hp), vs = [.ref a, v] ∧ HI H R D ∧ YrAt K R D a f n ∧ Mt K R D v ∧
  (wholeB v 1 n = true → ∀ H', HI H' R D → Q .non H') ∧ (wholeB v 1 n = false → Outs E (He.ga K "NoWeek") v R D)
theorem ok_Year_need_week {P : Program} {w : World} {K : PySem.W.Frag} {mg : Str → Option Value} {base : Heap} (T : Tx K mg) : FnG P w K mg base 4 (a_Year_need_week K) ["self", "week"] (spNeedWeek K) := by
  refine T.f_Year_need_week.ok sc_Year_need_week (fun vs H Q E h => ?_) (fun cdv A outer s H vs Q E hgu hr h => ⟨_, (pss_one (ps_if (pt_not (pt_val (ge_call (ok_is_whole T) hgu (hr.mono (by decide)) rfl T.g_is_whole T.k_is_whole T.b_is_whole .nil (fun _ => pass_takes (takes_of rfl rfl rfl rfl)) (pa_cons (pv 1) (pa_cons pe_int (pa_cons (pe_callB (call_lenU) (by rfl) T.n_len boot_len (pa_cons (pe_fld (pv 0) rfl) pa_nil)) pa_nil)))))) (pss_one (ps_raiseX rfl (takes_of rfl rfl rfl rfl) T.x_NoWeek (ok_NoWeek_init T) T.b_NoWeek_init (hr.mono (by decide)) rfl (pa_cons (pv 1) pa_nil))) pss_nil)), ?_⟩)
  · obtain ⟨a, v, f, n, R, D, rfl, _⟩ := h
    rfl
  · obtain ⟨a, v, f, n, R, D, rfl, hI, yr, mv, good, bad⟩ := h
    have pc := T.pc_Year
    obtain ⟨nl, td, ns, kvs, m, ⟨⟨dx, ea⟩, ⟨xs, en, pl⟩, _⟩, mt, told, rfl, hf⟩ := yr
    wtm_at "go"
    wtm_at "sg"
    rw [pl.length]
    refine whole_use hI mv (fun H1 hI1 => ?_)
    wtm_at "sg"
    cases hb : wholeB v 1 (ns.length : Int)
    · wtm_at "sg"
      exact bad hb _ _ _ (by assumption) (by wtm_at "ex") (by wtm_at "dat")
    · wtm_at "sg"
      exact good hb _ hI1
theorem need_week_use {K : PySem.W.Frag} {a : Addr} {v : V} {f : Int → Int × Int} {n : Int} {R : Cells} {D H : Hp} {Q : VK} {E : XK} (hI : HI H R D) (yr : YrAt K R D a f n) (mt : Mt K R D v) (good : wholeB v 1 n = true → ∀ H', HI H' R D → Q .non H') (bad : wholeB v 1 n = false → Outs E (He.ga K "NoWeek") v R D) : spNeedWeek K [.ref a, v] H Q E := ⟨a, v, f, n, R, D, rfl, hI, yr, mt, good, bad⟩
def spPair (K : PySem.W.Frag) : Sp := fun vs H Q _ => ∃ (a : Addr) (k : Int) (f : Int → Int × Int) (n : Int) (R : Cells) (D : Hp), vs = [.ref a, .int k] ∧ HI H R D ∧ YrAt K R D a f n ∧ 1 ≤ k ∧ k ≤ n ∧ ∀ v, PairAt D v (f k) → Q v H
theorem ok_Year_pair {P : Program} {w : World} {K : PySem.W.Frag} {mg : Str → Option Value} {base : Heap} (T : Tx K mg) : FnG P w K mg base 1 (a_Year_pair K) ["self", "week"] (spPair K) := by
  refine T.f_Year_pair.ok sc_Year_pair (fun vs H Q E h => ?_) (fun cdv A outer s H vs Q E hgu hr h => ⟨_, (pss_one (ps_ret (pe_dget2 (by exact hu1 hr) (pe_fld (pv 0) rfl) (pv 1) (pe_ix ix_U (pe_fld (pv 0) rfl) (pe_op op_sub (pv 1) pe_int) (fun _ _ => rfl)) ⟨rfl, rfl, rfl, rfl⟩))), ?_⟩)
  · obtain ⟨a, k, f, n, R, D, rfl, _⟩ := h
    rfl
  · obtain ⟨a, k, f, n, R, D, rfl, hI, yr, k0, k1, go⟩ := h
    have pc := T.pc_Year
    obtain ⟨nl, td, ns, kvs, m, ⟨⟨dx, ea⟩, ⟨xs, en, pl⟩, _⟩, mt, told, rfl, hf⟩ := yr
    have hk := hf k k0 k1
    have hlt : (k - 1).toNat < ns.length := by omega
    obtain ⟨v, e1, pv⟩ := pl.get (List.getElem?_eq_getElem hlt)
    have et := hI.get mt
    wtm_at "go"
    wtm_at "sg"
    refine RIx.l (hI.dat en) ((atI_ofI (by omega)).trans e1) ?_
    wtm_at "sg"
    unfold stand at hk
    cases em : m k with
    | none =>
      rw [told.no k em]
      rw [em, List.getD_eq_getElem?_getD, List.getElem?_eq_getElem hlt] at hk
      exact go v (by rw [hk]; exact pv)
    | some p =>
      obtain ⟨u, e2, pu, _⟩ := told.yes k p em
      rw [e2]
      rw [em] at hk
      exact go u (by rw [hk]; exact pu)
theorem pair_use {K : PySem.W.Frag} {a : Addr} {k : Int} {f : Int → Int × Int} {n : Int} {R : Cells} {D H : Hp} {Q : VK} {E : XK} (hI : HI H R D) (yr : YrAt K R D a f n) (k0 : 1 ≤ k) (k1 : k ≤ n) (go : ∀ v, PairAt D v (f k) → Q v H) : spPair K [.ref a, .int k] H Q E := ⟨a, k, f, n, R, D, rfl, hI, yr, k0, k1, go⟩
def spWc (K : PySem.W.Frag) (g : Int × Int → Int) : Sp := fun vs H Q E => ∃ (a : Addr) (v : V) (f : Int → Int × Int) (n : Int) (R : Cells) (D : Hp), vs = [.ref a, v] ∧ HI H R D ∧ YrAt K R D a f n ∧ Mt K R D v ∧
  (∀ k, v = .int k → 1 ≤ k → k ≤ n → ∀ H', HI H' R D → Q (.int (g (f k))) H') ∧ (wholeB v 1 n = false → Outs E (He.ga K "NoWeek") v R D)
theorem wc_use {K : PySem.W.Frag} {g : Int × Int → Int} {a : Addr} {k : Int} {f : Int → Int × Int} {n : Int} {R : Cells} {D H : Hp} {Q : VK} {E : XK} (hI : HI H R D) (yr : YrAt K R D a f n) (k0 : 1 ≤ k) (k1 : k ≤ n) (good : ∀ H', HI H' R D → Q (.int (g (f k))) H') : spWc K g [.ref a, .int k] H Q E :=
  ⟨a, .int k, f, n, R, D, rfl, hI, yr, (Th.kn (.int k)).m, fun j e _ _ => by cases e; exact good, fun h => by rw [whole_ok k0 k1] at h; cases h⟩
theorem ok_Year_warmth {P : Program} {w : World} {K : PySem.W.Frag} {mg : Str → Option Value} {base : Heap} (T : Tx K mg) : FnG P w K mg base 5 (a_Year_warmth K) ["self", "week"] (spWc K Prod.fst) := by
  refine T.f_Year_warmth.ok sc_Year_warmth (fun vs H Q E h => ?_) (fun cdv A outer s H vs Q E hgu hr h => ⟨_, (pss_cons (ps_expr (ge_meth (pv 0) T.cl_Year T.m_Year_need_week (ok_Year_need_week T) hgu (hr.mono (by decide)) T.b_Year_need_week .nil (fun _ => pass_takes (takes_of rfl rfl rfl rfl)) (pa_cons (pv 1) pa_nil)))
 (pss_one (ps_ret (pe_ix ix_U (ge_meth (pv 0) T.cl_Year T.m_Year_pair (ok_Year_pair T) hgu (hr.mono (by decide)) T.b_Year_pair .nil (fun _ => pass_takes (takes_of rfl rfl rfl rfl)) (pa_cons (pv 1) pa_nil)) pe_int (fun _ _ => rfl))))), ?_⟩)
  · obtain ⟨a, v, f, n, R, D, rfl, _⟩ := h
    rfl
  · obtain ⟨a, v, f, n, R, D, rfl, hI, yr, mv, good, bad⟩ := h
    obtain ⟨nl, td, ns, kvs, m, ⟨⟨dx, ea⟩, _⟩, _⟩ := id yr
    wtm_at "go"
    wtm_at "sg"
    refine need_week_use hI yr mv (fun hb H1 hI1 => ?_) bad
    obtain ⟨k, rfl, k0, k1⟩ := whole_is hb
    wtm_at "sg"
    refine pair_use hI1 yr k0 k1 (fun v pv => ?_)
    obtain ⟨q, rfl, eq⟩ := pv
    wtm_at "sg"
    exact good k rfl k0 k1 _ hI1
theorem ok_Year_cold {P : Program} {w : World} {K : PySem.W.Frag} {mg : Str → Option Value} {base : Heap} (T : Tx K mg) : FnG P w K mg base 5 (a_Year_cold K) ["self", "week"] (spWc K Prod.snd) := by
  refine T.f_Year_cold.ok sc_Year_cold (fun vs H Q E h => ?_) (fun cdv A outer s H vs Q E hgu hr h => ⟨_, (pss_cons (ps_expr (ge_meth (pv 0) T.cl_Year T.m_Year_need_week (ok_Year_need_week T) hgu (hr.mono (by decide)) T.b_Year_need_week .nil (fun _ => pass_takes (takes_of rfl rfl rfl rfl)) (pa_cons (pv 1) pa_nil)))
 (pss_one (ps_ret (pe_ix ix_U (ge_meth (pv 0) T.cl_Year T.m_Year_pair (ok_Year_pair T) hgu (hr.mono (by decide)) T.b_Year_pair .nil (fun _ => pass_takes (takes_of rfl rfl rfl rfl)) (pa_cons (pv 1) pa_nil)) pe_int (fun _ _ => rfl))))), ?_⟩)
  · obtain ⟨a, v, f, n, R, D, rfl, _⟩ := h
    rfl
  · obtain ⟨a, v, f, n, R, D, rfl, hI, yr, mv, good, bad⟩ := h
    obtain ⟨nl, td, ns, kvs, m, ⟨⟨dx, ea⟩, _⟩, _⟩ := id yr
    wtm_at "go"
    wtm_at "sg"
    refine need_week_use hI yr mv (fun hb H1 hI1 => ?_) bad
    obtain ⟨k, rfl, k0, k1⟩ := whole_is hb
    wtm_at "sg"
    refine pair_use hI1 yr k0 k1 (fun v pv => ?_)
    obtain ⟨q, rfl, eq⟩ := pv
    wtm_at "sg"
    exact good k rfl k0 k1 _ hI1
def putM (m : Int → Option (Int × Int)) (k : Int) (p : Option (Int × Int)) : Int → Option (Int × Int) := fun j => if j = k then p else m j
theorem Told.put {D : Hp} {kvs : List (Key × V)} {m : Int → Option (Int × Int)} {n k : Int} {p : Int × Int} {v : V} (h : Told D kvs m n) (pv : PairAt D v p) (w : WOk p) (k0 : 1 ≤ k) (k1 : k ≤ n) : Told D (putK kvs (.inl k) v) (putM m k (some p)) n := by
  have key : ∀ j : Int, (Sum.inl j : Key) = Sum.inl k ↔ j = k := fun j => ⟨fun e => Sum.inl.inj e, fun e => by rw [e]⟩
  refine ⟨fun j e => ?_, fun j q e => ?_, ?_⟩
  · unfold putM at e
    by_cases hj : j = k
    · rw [if_pos hj] at e
      cases e
    · rw [if_neg hj] at e
      rw [valV_put, if_neg (fun q => hj ((key j).mp q))]
      exact h.no j e
  · unfold putM at e
    by_cases hj : j = k
    · rw [if_pos hj] at e
      cases e
      rw [hj, valV_put, if_pos rfl]
      exact ⟨v, rfl, pv, w, k0, k1⟩
    · rw [if_neg hj] at e
      rw [valV_put, if_neg (fun q => hj ((key j).mp q))]
      exact h.yes j q e
  · obtain ⟨ks, e1, nd, b⟩ := h.ks
    cases ev : valV kvs (.inl k) with
    | none =>
      rw [putK_new v ev]
      refine ⟨ks ++ [k], by rw [List.map_append, List.map_append, e1]; rfl, ?_, ?_⟩
      · have nk : k ∉ ks := fun hk => by
          have := valV_not ev
          rw [e1] at this
          exact this (List.mem_map.mpr ⟨k, hk, rfl⟩)
        rw [List.nodup_append]
        exact ⟨nd, by simp, fun a ha b hb e => by rw [List.mem_singleton.mp hb] at e; rw [e] at ha; exact nk ha⟩
      · intro j hj
        rcases List.mem_append.mp hj with q | q
        · exact b j q
        · rw [List.mem_singleton.mp q]
          exact ⟨k0, k1⟩
    | some u =>
      refine ⟨ks, ?_, nd, b⟩
      rw [← e1]
      have : (kvs.any fun kv => decide (kv.1 = (Sum.inl k : Key))) = true := by rw [valV_any, ev]; rfl
      unfold putK
      rw [if_pos this, List.map_map]
      refine List.map_congr_left fun q _ => ?_
      show (if q.1 = (Sum.inl k : Key) then (q.1, v) else q).1 = q.1
      by_cases e : q.1 = (Sum.inl k : Key)
      · rw [if_pos e]
      · rw [if_neg e]
def spTell (K : PySem.W.Frag) : Sp := fun vs H Q E => ∃ (a nl td : Addr) (ns : List (Int × Int)) (kvs : List (Key × V)) (m : Int → Option (Int × Int)) (v w c : V) (R : Cells) (D : Hp), vs = [.ref a, v, w, c] ∧ HI H ((td, .dK kvs) :: R) D ∧ IsYr K D a nl td ns ∧ Told D kvs m ns.length ∧
  Mt K ((td, .dK kvs) :: R) D v ∧ Mt K ((td, .dK kvs) :: R) D w ∧ Mt K ((td, .dK kvs) :: R) D c ∧
  (∀ (k wi : Int) (ci : Option Int), v = .int k → w = .int wi → c = oV ci → 1 ≤ k → k ≤ ns.length → 0 ≤ wi → wi ≤ 400 → (∀ x, ci = some x → -60 ≤ x ∧ x ≤ 60) → ∀ kvs' H' D', HI H' ((td, .dK kvs') :: R) D' → Ex D D' → Told D' kvs' (putM m k (some (wi, ci.getD (stand ns m k).2))) ns.length → Q .non H') ∧
  (wholeB v 1 ns.length = false → Outs E (He.ga K "NoWeek") v ((td, .dK kvs) :: R) D) ∧ (wholeB v 1 ns.length = true → wholeB w 0 400 = false → Outs E (He.ga K "NoNumber") w ((td, .dK kvs) :: R) D) ∧
  (wholeB v 1 ns.length = true → wholeB w 0 400 = true → c ≠ .non → wholeB c (-60) 60 = false → Outs E (He.ga K "NoNumber") c ((td, .dK kvs) :: R) D)
theorem nd_le : ∀ (n : Nat) (l : List Int), l.Nodup → (∀ k ∈ l, 1 ≤ k ∧ k ≤ (n : Int)) → l.length ≤ n
  | 0, l, _, h => by
    cases l with
    | nil => exact Nat.le_refl _
    | cons a r =>
      obtain ⟨a0, a1⟩ := h a (List.mem_cons_self ..)
      omega
  | n + 1, l, nd, h => by
    by_cases hm : ((n + 1 : Nat) : Int) ∈ l
    · have ih := nd_le n (l.erase ((n + 1 : Nat) : Int)) (nd.erase _) fun k hk => by
        obtain ⟨ne, hk2⟩ := (nd.mem_erase_iff).mp hk
        obtain ⟨b0, b1⟩ := h k hk2
        exact ⟨b0, by omega⟩
      rw [List.length_erase_of_mem hm] at ih
      omega
    · have ih := nd_le n l nd fun k hk => by
        obtain ⟨b0, b1⟩ := h k hk
        refine ⟨b0, ?_⟩
        have : k ≠ ((n + 1 : Nat) : Int) := fun e => hm (e ▸ hk)
        omega
      omega
theorem Told.len {D : Hp} {kvs : List (Key × V)} {m : Int → Option (Int × Int)} {n : Nat} (h : Told D kvs m n) : kvs.length ≤ n := by
  obtain ⟨ks, e, nd, b⟩ := h.ks
  have : kvs.length = ks.length := by
    have := congrArg List.length e
    rwa [List.length_map, List.length_map] at this
  rw [this]
  exact nd_le n ks nd b
theorem IsYr.at {K : PySem.W.Frag} {R : Cells} {D : Hp} {a nl td : Addr} {ns : List (Int × Int)} {kvs : List (Key × V)} {m : Int → Option (Int × Int)} (i : IsYr K D a nl td ns) (mm : ((td, HO.dK kvs) : Addr × HO) ∈ R) (t : Told D kvs m ns.length) : YrAt K R D a (stand ns m) ns.length := ⟨nl, td, ns, kvs, m, i, mm, t, rfl, fun _ _ _ => rfl⟩
set_option maxHeartbeats 1000000 in
theorem ok_Year_tell {P : Program} {w : World} {K : PySem.W.Frag} {mg : Str → Option Value} {base : Heap} (T : Tx K mg) : FnG P w K mg base 5 (a_Year_tell K) ["self", "week", "warmth", "cold"] (spTell K) := by
  refine T.f_Year_tell.ok sc_Year_tell (fun vs H Q E h => ?_) (fun cdv A outer s H vs Q E hgu hr h => ⟨_, (pss_cons (ps_expr (ge_meth (pv 0) T.cl_Year T.m_Year_need_week (ok_Year_need_week T) hgu (hr.mono (by decide)) T.b_Year_need_week .nil (fun _ => pass_takes (takes_of rfl rfl rfl rfl)) (pa_cons (pv 1) pa_nil)))
 (pss_cons (ps_if (pt_not (pt_val (ge_call (ok_is_warmth T) hgu (hr.mono (by decide)) rfl T.g_is_warmth T.k_is_warmth T.b_is_warmth .nil (fun _ => pass_takes (takes_of rfl rfl rfl rfl)) (pa_cons (pv 2) pa_nil)))) (pss_one (ps_raiseX rfl (takes_of rfl rfl rfl rfl) T.x_NoNumber (ok_NoNumber_init T) T.b_NoNumber_init (hr.mono (by decide)) rfl (pa_cons (pv 2) pa_nil))) pss_nil)
 (pss_cons (ps_if (PW.pt (pw_and (pt_cmpR op_isnU (pv 3) pe_non (nomark _)) (pw_and1 (pt_not (pt_val (ge_call (ok_is_cold T) hgu (hr.mono (by decide)) rfl T.g_is_cold T.k_is_cold T.b_is_cold .nil (fun _ => pass_takes (takes_of rfl rfl rfl rfl)) (pa_cons (pv 3) pa_nil))))))) (pss_one (ps_raiseX rfl (takes_of rfl rfl rfl rfl) T.x_NoNumber (ok_NoNumber_init T) T.b_NoNumber_init (hr.mono (by decide)) rfl (pa_cons (pv 3) pa_nil))) pss_nil)
 (pss_cons (ps_if (pt_cmpR op_isU (pv 3) pe_non (nomark _)) (pss_one (ps_set (i := 3) sc_Year_tell.nd rfl (Or.inl rfl) (pe_ix ix_U (ge_meth (pv 0) T.cl_Year T.m_Year_pair (ok_Year_pair T) hgu (hr.mono (by decide)) T.b_Year_pair .nil (fun _ => pass_takes (takes_of rfl rfl rfl rfl)) (pa_cons (pv 1) pa_nil)) pe_int (fun _ _ => rfl)))) pss_nil)
 (pss_one (ps_dput (by exact hu1 hr) (pe_fld (pv 0) rfl) (pv 1) (pe_tup (pa_cons (pv 2) (pa_cons (pv 3) pa_nil))) rfl)))))), ?_⟩)
  · obtain ⟨a, nl, td, ns, kvs, m, v, w, c, R, D, rfl, _⟩ := h
    rfl
  · obtain ⟨a, nl, td, ns, kvs, m, v, w, c, R, D, rfl, hI, iy, told, mv, mw, mc, good, bad1, bad2, bad3⟩ := h
    have pc := T.pc_Year
    have yr := iy.at (R := (td, .dK kvs) :: R) (List.mem_cons_self ..) told
    obtain ⟨⟨dx, ea⟩, ⟨xs, en, pl⟩, l0, l1, wo⟩ := id iy
    have kl := told.len
    wtm_at "go"
    wtm_at "sg"
    refine need_week_use hI yr mv (fun hb H1 hI1 => ?_) bad1
    obtain ⟨k, rfl, k0, k1⟩ := whole_is hb
    wtm_at "sg"
    refine whl_use hI1 mw (fun H2 hI2 => ?_)
    wtm_at "sg"
    cases hw : wholeB w 0 400 with
    | false =>
      wtm_at "sg"
      exact bad2 hb hw _ _ _ (by assumption) (by wtm_at "ex") (by wtm_at "dat")
    | true =>
      obtain ⟨wi, rfl, w0, w1⟩ := whole_is hw
      wtm_at "sg"
      by_cases hc : c = .non
      · subst hc
        wtm_at "sg"
        refine pair_use hI2 yr k0 k1 (fun u pu => ?_)
        obtain ⟨q, rfl, eq⟩ := pu
        wtm_at "sg"
        rename_i pn H3 D3 hI3 x3 en3 H4 hI4
        have pv : PairAt D3 (.ref pn) (wi, (stand ns m k).2) := ⟨pn, rfl, en3⟩
        have sk := yr.ok k0 k1
        exact good k wi none rfl rfl rfl k0 k1 w0 w1 (fun _ e => by cases e) _ _ _ hI4 (by wtm_at "ex") ((told.mono (by wtm_at "ex")).put pv ⟨w0, w1, sk.c0, sk.c1⟩ k0 k1)
      · wtm_at "sg"
        refine whl_use hI2 mc (fun H3 hI3 => ?_)
        wtm_at "sg"
        cases hcb : wholeB c (-60) 60 with
        | false =>
          wtm_at "sg"
          exact bad3 hb hw hc hcb _ _ _ (by assumption) (by wtm_at "ex") (by wtm_at "dat")
        | true =>
          obtain ⟨ci, rfl, c0, c1⟩ := whole_is hcb
          wtm_at "sg"
          rename_i pn H5 D5 hI5 x5 en5 H6 hI6
          have pv : PairAt D5 (.ref pn) (wi, ci) := ⟨pn, rfl, en5⟩
          exact good k wi (some ci) rfl rfl rfl k0 k1 w0 w1 (fun _ e => by cases e; exact ⟨c0, c1⟩) _ _ _ hI6 (by wtm_at "ex") ((told.mono (by wtm_at "ex")).put pv ⟨w0, w1, c0, c1⟩ k0 k1)
theorem tell_use {K : PySem.W.Frag} {a nl td : Addr} {ns : List (Int × Int)} {kvs : List (Key × V)} {m : Int → Option (Int × Int)} {k w c : Int} {R : Cells} {D H : Hp} {Q : VK} {E : XK} (hI : HI H ((td, .dK kvs) :: R) D) (iy : IsYr K D a nl td ns) (t : Told D kvs m ns.length) (k0 : 1 ≤ k) (k1 : k ≤ ns.length) (wo : WOk (w, c))
    (q : ∀ kvs' H' D', HI H' ((td, .dK kvs') :: R) D' → Ex D D' → Told D' kvs' (putM m k (some (w, c))) ns.length → Q .non H') : spTell K [.ref a, .int k, .int w, .int c] H Q E :=
  ⟨a, nl, td, ns, kvs, m, .int k, .int w, .int c, R, D, rfl, hI, iy, t, (Th.kn (.int _)).m, (Th.kn (.int _)).m, (Th.kn (.int _)).m, fun k' w' ci e1 e2 e3 _ _ _ _ _ kvs' H' D' h x t' => by
      cases e1; cases e2
      cases ci with
      | none => cases e3
      | some y => cases e3; exact q _ _ _ h x t', (fun h => absurd h (by rw [whole_ok k0 k1]; decide)), (fun _ h => absurd h (by rw [whole_ok wo.w0 wo.w1]; decide)), (fun _ _ _ h => absurd h (by rw [whole_ok wo.c0 wo.c1]; decide))⟩
theorem valV_drop {kvs : List (Key × V)} {k j : Key} : valV (dropK kvs k) j = if j = k then none else valV kvs j := by
  induction kvs with
  | nil => by_cases h : j = k <;> simp [dropK, valV_nil, h]
  | cons p r ih =>
    by_cases e : p.1 = k
    · rw [dropK_pos e, ih]
      by_cases h : j = k
      · rw [if_pos h, if_pos h]
      · rw [if_neg h, if_neg h, valV_neg (fun z => h (z.symm.trans e))]
    · rw [dropK_neg e]
      by_cases h : p.1 = j
      · rw [valV_pos h, if_neg (fun z => e (h.trans z)), valV_pos h]
      · rw [valV_neg h, ih, valV_neg h]
theorem Told.drop {D : Hp} {kvs : List (Key × V)} {m : Int → Option (Int × Int)} {n k : Int} (h : Told D kvs m n) : Told D (dropK kvs (.inl k)) (putM m k none) n := by
  have key : ∀ j : Int, (Sum.inl j : Key) = Sum.inl k ↔ j = k := fun j => ⟨fun e => Sum.inl.inj e, fun e => by rw [e]⟩
  refine ⟨fun j e => ?_, fun j q e => ?_, ?_⟩
  · rw [valV_drop]
    by_cases hj : j = k
    · rw [if_pos ((key j).mpr hj)]
    · rw [if_neg (fun q => hj ((key j).mp q))]
      unfold putM at e
      rw [if_neg hj] at e
      exact h.no j e
  · unfold putM at e
    by_cases hj : j = k
    · rw [if_pos hj] at e
      cases e
    · rw [if_neg hj] at e
      rw [valV_drop, if_neg (fun q => hj ((key j).mp q))]
      exact h.yes j q e
  · obtain ⟨ks, e1, nd, b⟩ := h.ks
    refine ⟨ks.filter fun j => decide (j ≠ k), ?_, nd.filter _, fun j hj => b j (List.mem_filter.mp hj).1⟩
    unfold dropK
    have : ∀ (kvs : List (Key × V)) (ks : List Int), kvs.map (·.1) = ks.map Sum.inl → (kvs.filter fun kv => decide (kv.1 ≠ (Sum.inl k : Key))).map (·.1) = (ks.filter fun j => decide (j ≠ k)).map Sum.inl := by
      intro kvs
      induction kvs with
      | nil =>
        intro ks e
        cases ks with
        | nil => rfl
        | cons a r => cases e
      | cons p r ih =>
        intro ks e
        cases ks with
        | nil => cases e
        | cons a s =>
          obtain ⟨e1, e2⟩ := List.cons.inj e
          have ih := ih s e2
          by_cases ha : a = k
          · rw [List.filter_cons_of_neg (by simp [show p.1 = Sum.inl a from e1, ha]), List.filter_cons_of_neg (by simp [ha])]
            exact ih
          · rw [List.filter_cons_of_pos (by simp [show p.1 = Sum.inl a from e1]; exact ha), List.filter_cons_of_pos (by simp [ha]), List.map_cons, List.map_cons, ih]
            rw [show p.1 = Sum.inl a from e1]
    exact this kvs ks e1
def spBackG (K : PySem.W.Frag) : Sp := fun vs H Q _ => ∃ (a nl td : Addr) (ns : List (Int × Int)) (kvs : List (Key × V)) (m : Int → Option (Int × Int)) (k : Int) (R : Cells) (D : Hp), vs = [.ref a, .int k] ∧ HI H ((td, .dK kvs) :: R) D ∧ IsYr K D a nl td ns ∧ Told D kvs m ns.length ∧ 1 ≤ k ∧ k ≤ ns.length ∧ (m k).isSome = true ∧
  ∀ kvs' H', HI H' ((td, .dK kvs') :: R) D → Told D kvs' (putM m k none) ns.length → Q .non H'
set_option maxHeartbeats 1000000 in
theorem ok_Year_back {P : Program} {w : World} {K : PySem.W.Frag} {mg : Str → Option Value} {base : Heap} (T : Tx K mg) : FnG P w K mg base 5 (a_Year_back K) ["self", "week"] (spBackG K) := by
  refine T.f_Year_back.ok sc_Year_back (fun vs H Q E h => ?_) (fun cdv A outer s H vs Q E hgu hr h => ⟨_, (pss_cons (ps_expr (ge_meth (pv 0) T.cl_Year T.m_Year_need_week (ok_Year_need_week T) hgu (hr.mono (by decide)) T.b_Year_need_week .nil (fun _ => pass_takes (takes_of rfl rfl rfl rfl)) (pa_cons (pv 1) pa_nil)))
 (pss_cons (ps_if (pt_cmp (pc_dnotin (by exact hu1 hr) (pv 1) (pe_fld (pv 0) rfl))) (pss_one ps_never) pss_nil)
 (pss_one (ps_expr (pe_dpop1 (pe_fld (pv 0) rfl) (pv 1) ⟨rfl, rfl, rfl, rfl⟩))))), ?_⟩)
  · obtain ⟨a, nl, td, ns, kvs, m, k, R, D, rfl, _⟩ := h
    rfl
  · obtain ⟨a, nl, td, ns, kvs, m, k, R, D, rfl, hI, iy, told, k0, k1, hm, go⟩ := h
    have pc := T.pc_Year
    have yr := iy.at (R := (td, .dK kvs) :: R) (List.mem_cons_self ..) told
    obtain ⟨⟨dx, ea⟩, ⟨xs, en, pl⟩, l0, l1, wo⟩ := id iy
    obtain ⟨p, em⟩ := Option.isSome_iff_exists.mp hm
    obtain ⟨v, ev, _⟩ := told.yes k p em
    wtm_at "go"
    wtm_at "sg"
    refine need_week_use hI yr (Th.kn (.int k)).m (fun hb H1 hI1 => ?_) (fun h => by rw [whole_ok k0 k1] at h; cases h)
    wtm_at "sg"
    rw [ev]
    refine iteF ?_
    wtm_at "sg"
    refine do_i hI1 ev (fun H2 hI2 => ?_)
    wtm_at "sg"
    exact go _ _ hI2 told.drop
theorem valV_no {kvs : List (Key × V)} {k : Key} (h : k ∉ kvs.map (·.1)) : valV kvs k = none := by
  induction kvs with
  | nil => rfl
  | cons p r ih =>
    rw [valV_neg (fun e => h (by rw [List.map_cons, e]; exact List.mem_cons_self ..))]
    exact ih fun m => h (by rw [List.map_cons]; exact List.mem_cons_of_mem _ m)
theorem merge_app : ∀ (more acc : List (Key × V)), ((acc ++ more).map (·.1)).Nodup → mergeK acc more = acc ++ more
  | [], acc, _ => by simp [mergeK]
  | p :: r, acc, h => by
    have hp : valV acc p.1 = none := valV_no fun hm => by
      rw [List.map_append, List.nodup_append] at h
      exact h.2.2 _ hm _ (by rw [List.map_cons]; exact List.mem_cons_self ..) rfl
    have e : mergeK acc (p :: r) = mergeK (putK acc p.1 p.2) r := rfl
    rw [e, putK_new _ hp]
    have e2 : acc ++ [(p.1, p.2)] ++ r = acc ++ p :: r := by simp
    rw [merge_app r (acc ++ [(p.1, p.2)]) (by rw [e2]; exact h), e2]
theorem merge_nd {kvs : List (Key × V)} (h : (kvs.map (·.1)).Nodup) : mergeK [] kvs = kvs := merge_app kvs [] h
theorem paired_snoc {α β : Type} {r : α → β → Prop} {x : α} {y : β} (h : r x y) : ∀ {xs : List α} {ys : List β}, Paired r xs ys → Paired r (xs ++ [x]) (ys ++ [y])
  | _, _, .nil => .cons h .nil
  | _, _, .cons a l => .cons a (paired_snoc h l)
theorem valV_ks {g : Int → V} : ∀ {ks : List Int} {k : Int}, valV (ks.map fun j => ((Sum.inl j : Key), g j)) (.inl k) = if k ∈ ks then some (g k) else none
  | [], k => by simp [valV_nil]
  | j :: ks, k => by
    by_cases e : j = k
    · rw [List.map_cons, valV_pos (by rw [e]), if_pos (by rw [e]; exact List.mem_cons_self ..), e]
    · rw [List.map_cons, valV_neg (fun z => e (Sum.inl.inj z)), valV_ks]
      by_cases hm : k ∈ ks
      · rw [if_pos hm, if_pos (List.mem_cons_of_mem _ hm)]
      · rw [if_neg hm, if_neg (fun z => by rcases List.mem_cons.mp z with z | z; exact e z.symm; exact hm z)]
/-- the told weeks, rising -/
def spYTold (K : PySem.W.Frag) : Sp := fun vs H Q _ => ∃ (a nl td : Addr) (ns : List (Int × Int)) (kvs : List (Key × V)) (m : Int → Option (Int × Int)) (R : Cells) (D : Hp), vs = [.ref a] ∧ HI H R D ∧ IsYr K D a nl td ns ∧ ((td, HO.dK kvs) : Addr × HO) ∈ R ∧ Told D kvs m ns.length ∧
  ∀ (p : Addr) (ks : List Int) (kvs' : List (Key × V)) H' D', HI H' R D' → Ex D D' → D' p = some (.dK kvs') → Told D' kvs' m ns.length → kvs'.map (·.1) = ks.map Sum.inl → ks.Pairwise (· ≤ ·) → ks.Nodup → (∀ k, k ∈ ks ↔ (m k).isSome = true) → Q (.ref p) H'
set_option maxHeartbeats 1000000 in
theorem ok_Year_told {P : Program} {w : World} {K : PySem.W.Frag} {mg : Str → Option Value} {base : Heap} (T : Tx K mg) : FnG P w K mg base 1 (a_Year_told K) ["self"] (spYTold K) := by
  refine T.f_Year_told.ok sc_Year_told (fun vs H Q E h => ?_) (fun cdv A outer s H vs Q E hgu hr h => ⟨_, (pss_one (ps_ret (pe_callTy (call_dictO rfl) (by rfl) T.n_dict boot_dict (pa_cons (pe_lc (own := [("week", 1)]) rfl sc_Year_told.nd (pi_list (pe_callB (call_sortI rfl) (by rfl) T.n_sorted boot_sorted (pa_cons (pe_fld (pv 0) rfl) pa_nil))) (blkOk_by (own := [("week", 1)]) (N := ["self", "week"]) (sc := defScope s_Year_told) (by decide +kernel)) (fun _ _ _ _ _ => (pg_name (i := 1) sc_Year_told.nd rfl (by first | exact Or.inl rfl | exact Or.inr rfl))) (fun _ _ _ _ _ => pts_nil) (fun _ _ _ _ _ => (pe_tup (pa_cons (pv 1) (pa_cons (pe_dget (by exact hu1 hr) (pe_fldC (K := K) (pv 0) (by rfl) rfl) (pv 1) (fun _ _ => rfl)) pa_nil))))) pa_nil)))), ?_⟩)
  · obtain ⟨a, nl, td, ns, kvs, m, R, D, rfl, _⟩ := h
    rfl
  · obtain ⟨a, nl, td, ns, kvs, m, R, D, rfl, hI, iy, mm, told, go⟩ := h
    have pc := T.pc_Year
    obtain ⟨⟨dx, ea⟩, ⟨xs, en, pl⟩, l0, l1, wo⟩ := id iy
    have et := hI.get mm
    have kl := told.len
    wtm_at "go"
    wtm_at "sg"
    obtain ⟨ks0, ek, nd0, bk⟩ := id told.ks
    have hl0 : ks0.length ≤ 52 := by
      have := nd_le ns.length ks0 nd0 bk
      omega
    refine RSortI.d et ek (by omega) (fun ys hp hs => ?_)
    have nd : ys.Nodup := hp.nodup_iff.mpr nd0
    have hyl : ys.length ≤ 52 := by rw [hp.length_eq]; exact hl0
    have hin : ∀ k, k ∈ ys ↔ (m k).isSome = true := fun k => by
      rw [hp.mem_iff]
      constructor
      · intro hk
        cases em : m k with
        | some p => rfl
        | none =>
          have := valV_not (told.no k em)
          rw [ek] at this
          exact absurd (List.mem_map.mpr ⟨k, hk, rfl⟩) this
      · intro hk
        obtain ⟨p, em⟩ := Option.isSome_iff_exists.mp hk
        obtain ⟨v, ev, _⟩ := told.yes k p em
        have := valV_in ev
        rw [ek] at this
        obtain ⟨j, hj, e⟩ := List.mem_map.mp this
        rw [← Sum.inl.inj e]
        exact hj
    wtm_at "sg"
    rename_i pl1 H1 D1 hI1 x1 el1
    let g : Int → V := fun k => (valV kvs (.inl k)).getD .non
    refine lc_lst (xs := ys.map V.int) (fun i acc R' D' => ∃ ps : List Addr, R' = R ∧ Ex D1 D' ∧ acc = ps.map V.ref ∧ Paired (fun p (kv : Key × V) => D' p = some (.tup [kV kv.1, kv.2])) ps ((ys.take i).map fun j => ((Sum.inl j : Key), g j))) hI1 ⟨[], rfl, Ex.refl _, rfl, .nil⟩ (fun i acc R' D' q => ?_) (fun L i acc v R' D' H' hv hI' q hl2 => ?_) (fun L acc R' D' H' hI' q hl2 => ?_)
    · obtain ⟨_, rfl, x, _⟩ := q
      exact x _ _ el1
    · obtain ⟨ps, rfl, xq, rfl, pr⟩ := q
      rw [List.getElem?_map] at hv
      obtain ⟨k, hk, rfl⟩ := Option.map_eq_some_iff.mp hv
      have hi : i < ys.length := (List.getElem?_eq_some_iff.mp hk).1
      obtain ⟨p, em⟩ := Option.isSome_iff_exists.mp ((hin k).mp (List.mem_of_getElem? hk))
      obtain ⟨u, eu, _⟩ := told.yes k p em
      have et2 := hI'.drop.get mm
      have gk : g k = u := by show (valV kvs (.inl k)).getD .non = u; rw [eu]; rfl
      wtm_at "sg"
      refine dv_i (by wtm_at "hp") eu ?_
      wtm_at "sg"
      rename_i pn H2 D2 hI2 x2 en2
      refine le_mk hI2 ⟨ps ++ [pn], rfl, xq.trans x2, by rw [List.map_append]; rfl, ?_⟩ hl2 (by omega)
      rw [take_more hk, List.map_append]
      exact paired_snoc (by show D2 pn = some (.tup [.int k, g k]); rw [gk]; exact en2) (paired_mono (fun _ _ h => x2 _ _ h) pr)
    · obtain ⟨ps, rfl, xq, rfl, pr⟩ := q
      have hF := hI'.freeze
      have xF := hI'.freezeX
      rw [List.length_map, List.take_of_length_le (Nat.le_refl _)] at pr
      refine RDictO.p (hF.dat upd_same) (paired_mono (fun _ _ h => hF.dat (xF _ _ h)) pr) ?_
      have ekk : (ys.map fun j => ((Sum.inl j : Key), g j)).map (·.1) = ys.map Sum.inl := by rw [List.map_map]; rfl
      have ndk : ((ys.map fun j => ((Sum.inl j : Key), g j)).map (·.1)).Nodup := by
        rw [ekk]
        exact List.Pairwise.map _ (fun a b h e => h (Sum.inl.inj e)) nd
      rw [merge_nd ndk]
      refine al_D hF (fun pd H3 D3 hI3 x3 e3 => ?_)
      have xA : Ex D D3 := x1.trans (xq.trans (xF.trans x3))
      refine go pd ys _ _ _ hI3 xA e3 ⟨fun k em => ?_, fun k p em => ?_, ⟨ys, ekk, nd, fun k hk => bk k (hp.mem_iff.mp hk)⟩⟩ ekk hs nd hin
      · rw [valV_ks, if_neg]
        intro hk
        have := (hin k).mp hk
        rw [em] at this
        cases this
      · obtain ⟨u, eu, pu, w, b⟩ := told.yes k p em
        refine ⟨u, ?_, pu.mono xA, w, b⟩
        rw [valV_ks, if_pos ((hin k).mpr (by rw [em]; rfl))]
        show some ((valV kvs (.inl k)).getD .non) = some u
        rw [eu]
        rfl
/-- the weeks from 1 to n as f says -/
def wksOf (f : Int → Int × Int) (n : Nat) : List (Int × Int) := (List.range n).map fun (i : Nat) => f ((i : Int) + 1)
theorem wksOf_len {f : Int → Int × Int} {n : Nat} : (wksOf f n).length = n := by unfold wksOf; rw [List.length_map, List.length_range]
theorem wksOf_succ {f : Int → Int × Int} {n : Nat} : wksOf f (n + 1) = wksOf f n ++ [f ((n : Int) + 1)] := by
  unfold wksOf
  rw [List.range_succ, List.map_append]
  rfl
def spYWeeks (K : PySem.W.Frag) : Sp := fun vs H Q _ => ∃ (a : Addr) (f : Int → Int × Int) (n : Int) (R : Cells) (D : Hp), vs = [.ref a] ∧ HI H R D ∧ YrAt K R D a f n ∧
  ∀ (p : Addr) (xs : List V) H' D', HI H' ((p, .lst xs) :: R) D' → Ex D D' → PairsL D' xs (wksOf f n.toNat) → Q (.ref p) H'
set_option maxHeartbeats 1000000 in
theorem ok_Year_weeks {P : Program} {w : World} {K : PySem.W.Frag} {mg : Str → Option Value} {base : Heap} (T : Tx K mg) : FnG P w K mg base 2 (a_Year_weeks K) ["self"] (spYWeeks K) := by
  refine T.f_Year_weeks.ok sc_Year_weeks (fun vs H Q E h => ?_) (fun cdv A outer s H vs Q E hgu hr h => ⟨_, (pss_one (ps_ret (pe_lc (own := [("week", 1)]) rfl sc_Year_weeks.nd (pi_range2 (by rfl) T.n_range (pa_cons pe_int (pa_cons (pe_op op_addU (pe_callB (call_lenU) (by rfl) T.n_len boot_len (pa_cons (pe_fld (pv 0) rfl) pa_nil)) pe_int) pa_nil))) (blkOk_by (own := [("week", 1)]) (N := ["self", "week"]) (sc := defScope s_Year_weeks) (by decide +kernel)) (fun _ _ _ _ _ => (pg_name (i := 1) sc_Year_weeks.nd rfl (by first | exact Or.inl rfl | exact Or.inr rfl))) (fun _ _ _ _ _ => pts_nil) (fun _ _ _ _ _ => (ge_meth (pv 0) T.cl_Year T.m_Year_pair (ok_Year_pair T) hgu (hr.mono (by decide)) T.b_Year_pair .nil (fun _ => pass_none) (pa_cons (pv 1) pa_nil)))))), ?_⟩)
  · obtain ⟨a, f, n, R, D, rfl, _⟩ := h
    rfl
  · obtain ⟨a, f, n, R, D, rfl, hI, yr, go⟩ := h
    have pc := T.pc_Year
    obtain ⟨n1, n52⟩ := yr.nn
    obtain ⟨nl, td, ns, kvs, m, ⟨⟨dx, ea⟩, ⟨xs, en, pl⟩, _⟩, mt, told, hn, hf⟩ := id yr
    have hxl := pl.length
    wtm_at "go"
    wtm_at "sh"
    rw [hxl]
    refine lc_rng (fun i acc R' D' => R' = R ∧ D' = D ∧ PairsL D acc (wksOf f i)) hI ⟨rfl, rfl, .nil⟩ (fun L i acc R' D' H' hi hI' q hl2 => ?_) (fun L acc R' D' H' hI' q hl2 => ?_)
    · obtain ⟨hR, hD, ps⟩ := q
      rw [hR, hD] at hI'
      wtm_at "sh"
      refine pair_use hI' yr.cell (by omega) (by omega) (fun v pv => ?_)
      refine le_mk hI' ⟨rfl, rfl, ?_⟩ hl2 (by omega)
      rw [wksOf_succ, show (i : Int) + 1 = 1 + (i : Int) by omega]
      exact ps.snoc pv
    · obtain ⟨hR, hD, ps⟩ := q
      rw [hR, hD] at hI'
      refine go L acc _ _ hI' (Ex.refl _) ?_
      rw [show n.toNat = (((ns.length : Nat) : Int) + 1 - 1).toNat by omega]
      exact ps
theorem yweeks_use {K : PySem.W.Frag} {a : Addr} {f : Int → Int × Int} {n : Int} {R : Cells} {D H : Hp} {Q : VK} {E : XK} (hI : HI H R D) (yr : YrAt K R D a f n)
    (q : ∀ (p : Addr) (xs : List V) H' D', HI H' ((p, .lst xs) :: R) D' → Ex D D' → PairsL D' xs (wksOf f n.toNat) → Q (.ref p) H') : spYWeeks K [.ref a] H Q E := ⟨a, f, n, R, D, rfl, hI, yr, q⟩
def pD (p : Int × Int) : PyData := .tuple [.int p.1, .int p.2]
theorem rep_pairs {D : Hp} : ∀ {xs : List V} {ns : List (Int × Int)}, PairsL D xs ns → RepL D xs (ns.map pD)
  | _, _, .nil => .nil
  | _, _, .cons ⟨_, e, h⟩ l => by
    rw [e]
    exact .cons (.tup h (.cons (.int _) (.cons (.int _) .nil))) (rep_pairs l)
theorem sm_pair {p : Int × Int} (w : WOk p) : Sm (pD p) 69 1 := by
  obtain ⟨a, b, c, d⟩ := w
  refine (Sm.tuple (n := 31) (k := 0) (all_c (Sm.int (Nat.lt_of_le_of_lt (by omega : p.1.natAbs ≤ 1000) (by decide))) (all_c (Sm.int (Nat.lt_of_le_of_lt (by omega : p.2.natAbs ≤ 1000) (by decide))) all_n))).mono ?_ (Nat.le_refl _)
  show 31 * 2 + 2 * 2 + 3 ≤ 69
  omega
theorem sm_pairs {ns : List (Int × Int)} (h : ∀ q ∈ ns, WOk q) (l : ns.length ≤ 60) : Sm (.list (ns.map pD)) 5000 2 := by
  refine (Sm.list (n := 69) (k := 1) fun d hd => ?_).mono ?_ (Nat.le_refl _)
  · obtain ⟨p, hp, rfl⟩ := List.mem_map.mp hd
    exact sm_pair (h p hp)
  · rw [List.length_map]
    omega
theorem sorted_uniq : ∀ {a b : List Int}, a.Pairwise (· < ·) → b.Pairwise (· < ·) → (∀ k, k ∈ a ↔ k ∈ b) → a = b
  | [], [], _, _, _ => rfl
  | [], y :: b, _, _, h => nomatch (h y).mpr (List.mem_cons_self ..)
  | x :: a, [], _, _, h => nomatch (h x).mp (List.mem_cons_self ..)
  | x :: a, y :: b, ha, hb, h => by
    obtain ⟨ha1, ha2⟩ := List.pairwise_cons.mp ha
    obtain ⟨hb1, hb2⟩ := List.pairwise_cons.mp hb
    have e : x = y := by
      rcases List.mem_cons.mp ((h x).mp (List.mem_cons_self ..)) with e | e
      · exact e
      · rcases List.mem_cons.mp ((h y).mpr (List.mem_cons_self ..)) with q | q
        · exact q.symm
        · have := hb1 x e
          have := ha1 y q
          omega
    subst e
    rw [sorted_uniq ha2 hb2 fun k => ?_]
    constructor
    · intro hk
      rcases List.mem_cons.mp ((h k).mp (List.mem_cons_of_mem _ hk)) with e | e
      · have := ha1 k hk
        omega
      · exact e
    · intro hk
      rcases List.mem_cons.mp ((h k).mpr (List.mem_cons_of_mem _ hk)) with e | e
      · have := hb1 k hk
        omega
      · exact e
theorem rising {ks : List Int} (h : ks.Pairwise (· ≤ ·)) (nd : ks.Nodup) : ks.Pairwise (· < ·) := by
  have := List.Pairwise.and h nd
  exact this.imp fun {a b} ⟨h1, h2⟩ => by
    have : a ≠ b := h2
    omega
def toldD (ks : List Int) (m : Int → Option (Int × Int)) : PyData := .dict (ks.map fun k => (.int k, pD ((m k).getD (0, 0))))
theorem valV_mem : ∀ {kvs : List (Key × V)} {p : Key × V}, (kvs.map (·.1)).Nodup → p ∈ kvs → valV kvs p.1 = some p.2
  | q :: r, p, nd, h => by
    rcases List.mem_cons.mp h with rfl | h
    · exact valV_pos rfl
    · have ne : ¬ q.1 = p.1 := fun e => by
        rw [List.map_cons] at nd
        exact (List.nodup_cons.mp nd).1 (List.mem_map.mpr ⟨p, h, e.symm⟩)
      rw [valV_neg ne]
      exact valV_mem (List.nodup_cons.mp (by simpa using nd)).2 h
theorem repK_told {D : Hp} {m : Int → Option (Int × Int)} : ∀ {kvs : List (Key × V)} {ks : List Int}, kvs.map (·.1) = ks.map Sum.inl → (∀ p ∈ kvs, ∀ k, p.1 = .inl k → ∃ q, m k = some q ∧ PairAt D p.2 q) → RepK D kvs (ks.map fun k => (.int k, pD ((m k).getD (0, 0))))
  | [], [], _, _ => .nil
  | [], _ :: _, e, _ => nomatch e
  | _ :: _, [], e, _ => nomatch e
  | (kk, v) :: r, k :: ks, e, h => by
    obtain ⟨e1, e2⟩ := List.cons.inj e
    have e1 : kk = .inl k := e1
    subst e1
    obtain ⟨q, em, pq, rfl, ep⟩ := h (.inl k, v) (List.mem_cons_self ..) k rfl
    have t := repK_told e2 fun p hp j hj => h p (List.mem_cons_of_mem _ hp) j hj
    rw [List.map_cons, em]
    exact .cons (k := .inl k) (.tup ep (.cons (.int _) (.cons (.int _) .nil))) t
theorem Told.repD {D : Hp} {kvs : List (Key × V)} {m : Int → Option (Int × Int)} {n : Int} {ks : List Int} {p : Addr} (t : Told D kvs m n) (e : D p = some (.dK kvs)) (ek : kvs.map (·.1) = ks.map Sum.inl) (nd : ks.Nodup) : Rep D (.ref p) (toldD ks m) := by
  refine .dict e (repK_told ek fun q hq k hk => ?_)
  have ndk : (kvs.map (·.1)).Nodup := by
    rw [ek]
    exact List.Pairwise.map _ (fun a b h e => h (Sum.inl.inj e)) nd
  have hv := valV_mem ndk hq
  rw [hk] at hv
  cases em : m k with
  | none =>
    rw [t.no k em] at hv
    cases hv
  | some pp =>
    obtain ⟨v, hv2, pv, _⟩ := t.yes k pp em
    rw [hv] at hv2
    cases hv2
    exact ⟨pp, rfl, pv⟩
theorem sm_told {D : Hp} {kvs : List (Key × V)} {m : Int → Option (Int × Int)} {n : Int} {ks : List Int} (t : Told D kvs m n) (hin : ∀ k, k ∈ ks ↔ (m k).isSome = true) (n52 : n ≤ 60) (l : ks.length ≤ 60) : Sm (toldD ks m) 20000 2 := by
  refine (Sm.dict (n := 69) (k := 1) fun d hd => ?_).mono ?_ (Nat.le_refl _)
  · obtain ⟨k, hk, rfl⟩ := List.mem_map.mp hd
    obtain ⟨p, em⟩ := Option.isSome_iff_exists.mp ((hin k).mp hk)
    obtain ⟨v, _, _, w, k0, k1⟩ := t.yes k p em
    refine ⟨(Sm.int (Nat.lt_of_le_of_lt (by omega : k.natAbs ≤ 1000) (by decide))).mono (by omega) (by omega), ?_⟩
    show Sm (pD ((m k).getD (0, 0))) 69 1
    rw [em]
    exact sm_pair w
  · rw [List.length_map]
    omega
def wms (f : Int → Int × Int) (i j : Int) : List Int := (List.range (j + 1 - i).toNat).map fun (k : Nat) => (f (i + (k : Int))).1
def cls (f : Int → Int × Int) (i j : Int) : List Int := (List.range (j + 1 - i).toNat).map fun (k : Nat) => (f (i + (k : Int))).2
def spWarmSum (K : PySem.W.Frag) : Sp := fun vs H Q E => ∃ (a : Addr) (v w : V) (f : Int → Int × Int) (n : Int) (R : Cells) (D : Hp), vs = [.ref a, v, w] ∧ HI H R D ∧ YrAt K R D a f n ∧ Mt K R D v ∧ Mt K R D w ∧
  (∀ i j, v = .int i → w = .int j → 1 ≤ i → i ≤ n → 1 ≤ j → j ≤ n → ∀ H' D', HI H' R D' → Ex D D' → Q (.int (wms f i j).sum) H') ∧ (wholeB v 1 n = false → Outs E (He.ga K "NoWeek") v R D) ∧ (wholeB v 1 n = true → wholeB w 1 n = false → Outs E (He.ga K "NoWeek") w R D)
set_option maxHeartbeats 1000000 in
theorem ok_Year_warm_sum {P : Program} {w : World} {K : PySem.W.Frag} {mg : Str → Option Value} {base : Heap} (T : Tx K mg) : FnG P w K mg base 5 (a_Year_warm_sum K) ["self", "first", "last"] (spWarmSum K) := by
  refine T.f_Year_warm_sum.ok sc_Year_warm_sum (fun vs H Q E h => ?_) (fun cdv A outer s H vs Q E hgu hr h => ⟨_, (pss_cons (ps_expr (ge_meth (pv 0) T.cl_Year T.m_Year_need_week (ok_Year_need_week T) hgu (hr.mono (by decide)) T.b_Year_need_week .nil (fun _ => pass_takes (takes_of rfl rfl rfl rfl)) (pa_cons (pv 1) pa_nil)))
 (pss_cons (ps_expr (ge_meth (pv 0) T.cl_Year T.m_Year_need_week (ok_Year_need_week T) hgu (hr.mono (by decide)) T.b_Year_need_week .nil (fun _ => pass_takes (takes_of rfl rfl rfl rfl)) (pa_cons (pv 2) pa_nil)))
 (pss_one (ps_ret (pe_callB (call_sumU rfl) (by rfl) T.n_sum boot_sum (pa_cons (pe_lc (own := [("week", 3)]) rfl sc_Year_warm_sum.nd (pi_range2 (by rfl) T.n_range (pa_cons (pv 1) (pa_cons (pe_op op_addU (pv 2) pe_int) pa_nil))) (blkOk_by (own := [("week", 3)]) (N := ["self", "first", "last", "week"]) (sc := defScope s_Year_warm_sum) (by decide +kernel)) (fun _ _ _ _ _ => (pg_name (i := 3) sc_Year_warm_sum.nd rfl (by first | exact Or.inl rfl | exact Or.inr rfl))) (fun _ _ _ _ _ => pts_nil) (fun _ _ _ _ _ => (pe_ix ix_U (ge_meth (pv 0) T.cl_Year T.m_Year_pair (ok_Year_pair T) hgu (hr.mono (by decide)) T.b_Year_pair .nil (fun _ => pass_none) (pa_cons (pv 3) pa_nil)) pe_int (fun _ _ => rfl)))) pa_nil)))))), ?_⟩)
  · obtain ⟨a, v, w, f, n, R, D, rfl, _⟩ := h
    rfl
  · obtain ⟨a, v, w, f, n, R, D, rfl, hI, yr, mv, mw, good, bad1, bad2⟩ := h
    obtain ⟨n1, n52⟩ := yr.nn
    obtain ⟨nl, td, ns, kvs, m, ⟨⟨dx, ea⟩, _⟩, _⟩ := id yr
    wtm_at "go"
    wtm_at "sh"
    refine need_week_use hI yr mv (fun hb H1 hI1 => ?_) bad1
    wtm_at "sh"
    refine need_week_use hI1 yr mw (fun hb2 H2 hI2 => ?_) (bad2 hb)
    obtain ⟨i, rfl, i0, i1⟩ := whole_is hb
    obtain ⟨j, rfl, j0, j1⟩ := whole_is hb2
    wtm_at "sh"
    refine lc_rng (fun k acc R' D' => R' = R ∧ D' = D ∧ acc = ((List.range k).map fun (q : Nat) => (f (i + (q : Int))).1).map V.int) hI2 ⟨rfl, rfl, rfl⟩ (fun L k acc R' D' H' hk hI' q hl => ?_) (fun L acc R' D' H' hI' q hl => ?_)
    · obtain ⟨hR, hD, rfl⟩ := q
      rw [hR, hD] at hI'
      wtm_at "sh"
      refine pair_use hI' yr.cell (by omega) (by omega) (fun v pv => ?_)
      obtain ⟨q, rfl, eq⟩ := pv
      wtm_at "sh"
      refine le_mk hI' ⟨rfl, rfl, ?_⟩ hl (by omega)
      rw [List.range_succ, List.map_append, List.map_append]
      rfl
    · obtain ⟨hR, hD, rfl⟩ := q
      rw [hR, hD] at hI'
      obtain ⟨DF, hF, xF, eF⟩ := hI'.fr1
      refine RSum.mk (hF.dat eF) ?_
      exact good i j rfl rfl i0 i1 j0 j1 _ _ hF xF
def spColdest (K : PySem.W.Frag) : Sp := fun vs H Q E => ∃ (a : Addr) (v w : V) (f : Int → Int × Int) (n : Int) (R : Cells) (D : Hp), vs = [.ref a, v, w] ∧ HI H R D ∧ YrAt K R D a f n ∧ Mt K R D v ∧ Mt K R D w ∧
  (∀ i j, v = .int i → w = .int j → 1 ≤ i → i ≤ n → 1 ≤ j → j ≤ n → ∀ H' D', HI H' R D' → Ex D D' → Q (oV (cls f i j).min?) H') ∧ (wholeB v 1 n = false → Outs E (He.ga K "NoWeek") v R D) ∧ (wholeB v 1 n = true → wholeB w 1 n = false → Outs E (He.ga K "NoWeek") w R D)
set_option maxHeartbeats 1000000 in
theorem ok_Year_coldest {P : Program} {w : World} {K : PySem.W.Frag} {mg : Str → Option Value} {base : Heap} (T : Tx K mg) : FnG P w K mg base 5 (a_Year_coldest K) ["self", "first", "last"] (spColdest K) := by
  refine T.f_Year_coldest.ok sc_Year_coldest (fun vs H Q E h => ?_) (fun cdv A outer s H vs Q E hgu hr h => ⟨_, (pss_cons (ps_expr (ge_meth (pv 0) T.cl_Year T.m_Year_need_week (ok_Year_need_week T) hgu (hr.mono (by decide)) T.b_Year_need_week .nil (fun _ => pass_takes (takes_of rfl rfl rfl rfl)) (pa_cons (pv 1) pa_nil)))
 (pss_cons (ps_expr (ge_meth (pv 0) T.cl_Year T.m_Year_need_week (ok_Year_need_week T) hgu (hr.mono (by decide)) T.b_Year_need_week .nil (fun _ => pass_takes (takes_of rfl rfl rfl rfl)) (pa_cons (pv 2) pa_nil)))
 (pss_cons (ps_if (pt_cmpR op_gt (pv 1) (pv 2) (nomark _)) (pss_one (ps_ret pe_non)) pss_nil)
 (pss_one (ps_ret (pe_callB (cr_min rfl) (by rfl) T.n_min boot_min (pa_cons (pe_lc (own := [("week", 3)]) rfl sc_Year_coldest.nd (pi_range2 (by rfl) T.n_range (pa_cons (pv 1) (pa_cons (pe_op op_addU (pv 2) pe_int) pa_nil))) (blkOk_by (own := [("week", 3)]) (N := ["self", "first", "last", "week"]) (sc := defScope s_Year_coldest) (by decide +kernel)) (fun _ _ _ _ _ => (pg_name (i := 3) sc_Year_coldest.nd rfl (by first | exact Or.inl rfl | exact Or.inr rfl))) (fun _ _ _ _ _ => pts_nil) (fun _ _ _ _ _ => (pe_ix ix_U (ge_meth (pv 0) T.cl_Year T.m_Year_pair (ok_Year_pair T) hgu (hr.mono (by decide)) T.b_Year_pair .nil (fun _ => pass_none) (pa_cons (pv 3) pa_nil)) pe_int (fun _ _ => rfl)))) pa_nil))))))), ?_⟩)
  · obtain ⟨a, v, w, f, n, R, D, rfl, _⟩ := h
    rfl
  · obtain ⟨a, v, w, f, n, R, D, rfl, hI, yr, mv, mw, good, bad1, bad2⟩ := h
    obtain ⟨n1, n52⟩ := yr.nn
    obtain ⟨nl, td, ns, kvs, m, ⟨⟨dx, ea⟩, _⟩, _⟩ := id yr
    wtm_at "go"
    wtm_at "sh"
    refine need_week_use hI yr mv (fun hb H1 hI1 => ?_) bad1
    wtm_at "sh"
    refine need_week_use hI1 yr mw (fun hb2 H2 hI2 => ?_) (bad2 hb)
    obtain ⟨i, rfl, i0, i1⟩ := whole_is hb
    obtain ⟨j, rfl, j0, j1⟩ := whole_is hb2
    wtm_at "sh"
    refine if_dec (fun h => ?_) (fun h => ?_)
    · have g := good i j rfl rfl i0 i1 j0 j1 _ _ hI2 (Ex.refl _)
      have e : cls f i j = [] := by
        unfold cls
        rw [show (j + 1 - i).toNat = 0 by omega]
        rfl
      rw [e] at g
      wtm_at "sh"
      exact g
    wtm_at "sh"
    refine lc_rng (fun k acc R' D' => R' = R ∧ D' = D ∧ acc = ((List.range k).map fun (q : Nat) => (f (i + (q : Int))).2).map V.int) hI2 ⟨rfl, rfl, rfl⟩ (fun L k acc R' D' H' hk hI' q hl => ?_) (fun L acc R' D' H' hI' q hl => ?_)
    · obtain ⟨hR, hD, rfl⟩ := q
      rw [hR, hD] at hI'
      wtm_at "sh"
      refine pair_use hI' yr.cell (by omega) (by omega) (fun v pv => ?_)
      obtain ⟨q, rfl, eq⟩ := pv
      wtm_at "sh"
      refine le_mk hI' ⟨rfl, rfl, ?_⟩ hl (by omega)
      rw [List.range_succ, List.map_append, List.map_append]
      rfl
    · obtain ⟨hR, hD, rfl⟩ := q
      rw [hR, hD] at hI'
      obtain ⟨DF, hF, xF, eF⟩ := hI'.fr1
      refine ⟨L, cls f i j, rfl, SqL.of (hF.dat eF), by unfold cls; rw [List.length_map, List.length_range]; omega, fun m hm hmin => ?_⟩
      have g := good i j rfl rfl i0 i1 j0 j1 _ _ hF xF
      rw [List.min?_eq_some_iff.mpr ⟨hm, hmin⟩] at g
      exact g
theorem warm_use {K : PySem.W.Frag} {a : Addr} {i j : Int} {f : Int → Int × Int} {n : Int} {R : Cells} {D H : Hp} {Q : VK} {E : XK} (hI : HI H R D) (yr : YrAt K R D a f n) (i0 : 1 ≤ i) (i1 : i ≤ n) (j0 : 1 ≤ j) (j1 : j ≤ n) (go : ∀ H' D', HI H' R D' → Ex D D' → Q (.int (wms f i j).sum) H') : spWarmSum K [.ref a, .int i, .int j] H Q E :=
  ⟨a, .int i, .int j, f, n, R, D, rfl, hI, yr, (Th.kn (.int i)).m, (Th.kn (.int j)).m, (fun i' j' e1 e2 _ _ _ _ => by cases e1; cases e2; exact go), (fun h => by rw [whole_ok i0 i1] at h; cases h), (fun _ h => by rw [whole_ok j0 j1] at h; cases h)⟩
theorem coldest_use {K : PySem.W.Frag} {a : Addr} {i j : Int} {f : Int → Int × Int} {n : Int} {R : Cells} {D H : Hp} {Q : VK} {E : XK} (hI : HI H R D) (yr : YrAt K R D a f n) (i0 : 1 ≤ i) (i1 : i ≤ n) (j0 : 1 ≤ j) (j1 : j ≤ n) (go : ∀ H' D', HI H' R D' → Ex D D' → Q (oV (cls f i j).min?) H') : spColdest K [.ref a, .int i, .int j] H Q E :=
  ⟨a, .int i, .int j, f, n, R, D, rfl, hI, yr, (Th.kn (.int i)).m, (Th.kn (.int j)).m, (fun i' j' e1 e2 _ _ _ _ => by cases e1; cases e2; exact go), (fun h => by rw [whole_ok i0 i1] at h; cases h), (fun _ h => by rw [whole_ok j0 j1] at h; cases h)⟩
theorem pDs_dict : ∀ {ns : List (Int × Int)}, PyData.hasDictAll (ns.map pD) = false
  | [] => by simp [PyData.hasDictAll]
  | _ :: ns => by
    have := pDs_dict (ns := ns)
    simp [PyData.hasDictAll, PyData.hasDict, pD, this]
theorem pDs_lay : ∀ {ns : List (Int × Int)}, PyData.canLayAll0 (ns.map pD) = true
  | [] => by simp [PyData.canLayAll0]
  | _ :: ns => by
    have := pDs_lay (ns := ns)
    simp [PyData.canLayAll0, PyData.canLay0, pD, this]
theorem pDs_depth : ∀ {ns : List (Int × Int)}, PyData.depthAll (ns.map pD) ≤ 1
  | [] => by simp [PyData.depthAll]
  | _ :: ns => by
    have := pDs_depth (ns := ns)
    simp [PyData.depthAll, PyData.depth, pD, this]
theorem pDs_shaped {ns : List (Int × Int)} : SeqAt.shaped (.list (ns.map pD)) = true := by
  have h := pDs_depth (ns := ns)
  simp [SeqAt.shaped, PyData.canLay0, pDs_lay, PyData.depth]
  omega
theorem pDs_eqv : ∀ {ns ms : List (Int × Int)}, PyData.eqvAll (ns.map pD) (ms.map pD) = decide (ns = ms)
  | [], [] => by simp [PyData.eqvAll]
  | [], _ :: _ => by simp [PyData.eqvAll]
  | _ :: _, [] => by simp [PyData.eqvAll]
  | p :: ns, q :: ms => by
    have ih := pDs_eqv (ns := ns) (ms := ms)
    obtain ⟨a, b⟩ := p
    obtain ⟨c, d⟩ := q
    rw [Bool.eq_iff_iff]
    simp [PyData.eqvAll, PyData.eqv, pD, ih]
theorem req_pairs {H : Hp} {Q : VK} {p q : Addr} {xs ys : List V} {ns ms : List (Int × Int)} (e1 : H p = some (.lst xs)) (h1 : PairsL H xs ns) (e2 : H q = some (.lst ys)) (h2 : PairsL H ys ms) (g : Q (.bl (decide (ns = ms))) H) : REq false (.ref p) (.ref q) H Q := by
  refine .dat (d := .list (ns.map pD)) (e := .list (ms.map pD)) (.lst e1 (rep_pairs h1)) (.lst e2 (rep_pairs h2)) (by simp [PyData.hasDict, pDs_dict]) (by simp [PyData.hasDict, pDs_dict]) pDs_shaped pDs_shaped ?_
  have e : PyData.eqv (.list (ns.map pD)) (.list (ms.map pD)) = decide (ns = ms) := by
    rw [← pDs_eqv]
    simp [PyData.eqv]
  rw [e]
  exact g
def spEqY (K : PySem.W.Frag) : Sp := fun vs H Q _ => ∃ (a : Addr) (f : Int → Int × Int) (n : Int) (y : V) (R : Cells) (D : Hp), vs = [.ref a, y] ∧ HI H R D ∧ YrAt K R D a f n ∧
  ((∃ t, Ty K D y t ∧ PySem.W.kitOne K t (.ref (He.ga K "Year")) = some false ∧ Q (.bl false) H) ∨ ∃ b g k, y = .ref b ∧ YrAt K R D b g k ∧ ∀ H' D', HI H' R D' → Ex D D' → Q (.bl (decide (wksOf f n.toNat = wksOf g k.toNat))) H')
theorem YrAt.tyY {K : PySem.W.Frag} {R : Cells} {D : Hp} {a : Addr} {f : Int → Int × Int} {n : Int} (i : InsC K (He.ga K "Year")) (h : YrAt K R D a f n) : Ty K D (.ref a) (.ref (He.ga K "Year")) := by
  obtain ⟨nl, td, ns, kvs, m, ⟨⟨dx, ea⟩, _⟩, _⟩ := h
  exact .o (.ins ea i)
set_option maxHeartbeats 1000000 in
theorem ok_Year_eq {P : Program} {w : World} {K : PySem.W.Frag} {mg : Str → Option Value} {base : Heap} (T : Tx K mg) : FnG P w K mg base 3 (a_Year_eq K) ["self", "other"] (spEqY K) := by
  refine T.f_Year_eq.ok sc_Year_eq (fun vs H Q E h => ?_) (fun cdv A outer s H vs Q E hgu hr h => ⟨_, (pss_one (ps_ret (pe_and (pe_callB (show CallR _ (.builtin "isinstance") (RIsiC K) from call_isiC) (by rfl) T.n_isinstance boot_isinstance (pa_cons (pv 1) (pa_cons (pe_glob (v := .ref (He.ga K "Year")) rfl T.g_Year rfl) pa_nil))) (pe_one (pe_cmpR (op_eqU hr.units) (ge_meth0 (pv 0) T.cl_Year T.m_Year_weeks (ok_Year_weeks T) hgu (hr.mono (by decide)) T.b_Year_weeks .nil (fun _ => pass_takes (takes_of rfl rfl rfl rfl))) (ge_meth0 (pv 1) T.cl_Year T.m_Year_weeks (ok_Year_weeks T) hgu (hr.mono (by decide)) T.b_Year_weeks .nil (fun _ => pass_takes (takes_of rfl rfl rfl rfl))) (nomark _)))))), ?_⟩)
  · obtain ⟨a, f, n, y, R, D, rfl, _⟩ := h
    rfl
  · obtain ⟨a, f, n, y, R, D, rfl, hI, yr, h⟩ := h
    obtain ⟨nl, td, ns, kvs, m, ⟨⟨dx, ea⟩, _⟩, _⟩ := id yr
    wtm_at "go"
    wtm_at "sh"
    rcases h with ⟨t, ty, kt, q⟩ | ⟨b, g, k, rfl, yb, go⟩
    · refine RIsiC.ty (ty.mono hI.sub) kt ?_
      wtm_at "sh"
      exact q
    · refine RIsiC.ty ((yb.tyY T.in_Year).mono hI.sub) T.ki_Year_Year ?_
      obtain ⟨nl2, td2, ns2, kvs2, m2, ⟨⟨dx2, eb⟩, _⟩, _⟩ := id yb
      wtm_at "sh"
      refine yweeks_use hI yr (fun p xs H1 D1 hI1 x1 pl1 => ?_)
      obtain ⟨D2, hI2, x2, e2⟩ := hI1.fr1
      have eb2 := (x1.trans x2) _ _ eb
      wtm_at "sh"
      refine yweeks_use hI2 (yb.mono (x1.trans x2)) (fun p3 xs3 H3 D3 hI3 x3 pl3 => ?_)
      obtain ⟨D4, hI4, x4, e4⟩ := hI3.fr1
      wtm_at "sh"
      have p4 := (pl1.mono (x2.trans (x3.trans x4)))
      refine req_pairs (hI4.dat ((x3.trans x4) _ _ e2)) (p4.mono hI4.sub) (hI4.dat e4) ((pl3.mono x4).mono hI4.sub) ?_
      exact go _ _ hI4 (x1.trans (x2.trans (x3.trans x4)))
def spLWeek : Sp := fun vs H Q _ => ∃ (b : Addr) (R : Cells) (D : Hp) (x y z : Int) (n : Nat), vs = [.ref b] ∧ HI H ((b, bx x y z) :: R) D ∧ BoxOk n x y z ∧ n + 100 < 1000000 ∧
  ∀ (q : Addr) (p : Int × Int) x' y' z' n' H' D', HI H' ((b, bx x' y' z') :: R) D' → Ex D D' → BoxOk n' x' y' z' → n' ≤ n + 10 → D' q = some (.tup [.int p.1, .int p.2]) → WOk p → Q (.ref q) H'
set_option maxHeartbeats 1000000 in
theorem ok_l_week {P : Program} {w : World} {K : PySem.W.Frag} {mg : Str → Option Value} {base : Heap} (T : Tx K mg) : FnG P w K mg base 2 (a_l_week K) ["box"] spLWeek := by
  refine T.f_l_week.ok sc_l_week (fun vs H Q E h => ?_) (fun cdv A outer s H vs Q E hgu hr h => ⟨_, (pss_cons (ps_set (i := 1) sc_l_week.nd rfl (Or.inl rfl) (pe_ix ix_U (pe_lst (pa_cons pe_int (pa_cons pe_int (pa_cons (ge_call (ok_l_take T) hgu (hr.mono (by decide)) rfl T.g_l_take T.k_l_take T.b_l_take .nil (fun _ => pass_takes (takes_of rfl rfl rfl rfl)) (pa_cons (pv 0) (pa_cons pe_int pa_nil))) (pa_cons (ge_call (ok_l_take T) hgu (hr.mono (by decide)) rfl T.g_l_take T.k_l_take T.b_l_take .nil (fun _ => pass_takes (takes_of rfl rfl rfl rfl)) (pa_cons (pv 0) (pa_cons pe_int pa_nil))) pa_nil))))) (ge_call (ok_l_take T) hgu (hr.mono (by decide)) rfl T.g_l_take T.k_l_take T.b_l_take .nil (fun _ => pass_takes (takes_of rfl rfl rfl rfl)) (pa_cons (pv 0) (pa_cons pe_int pa_nil))) (fun _ _ => rfl)))
 (pss_one (ps_ret (pe_tup (pa_cons (pv 1) (pa_cons (pe_ix ix_U (pe_lst (pa_cons (pe_un un_neg pe_int) (pa_cons pe_int (pa_cons (pe_op op_sub (ge_call (ok_l_take T) hgu (hr.mono (by decide)) rfl T.g_l_take T.k_l_take T.b_l_take .nil (fun _ => pass_takes (takes_of rfl rfl rfl rfl)) (pa_cons (pv 0) (pa_cons pe_int pa_nil))) pe_int) (pa_cons (pe_op op_sub (ge_call (ok_l_take T) hgu (hr.mono (by decide)) rfl T.g_l_take T.k_l_take T.b_l_take .nil (fun _ => pass_takes (takes_of rfl rfl rfl rfl)) (pa_cons (pv 0) (pa_cons pe_int pa_nil))) pe_int) pa_nil))))) (ge_call (ok_l_take T) hgu (hr.mono (by decide)) rfl T.g_l_take T.k_l_take T.b_l_take .nil (fun _ => pass_takes (takes_of rfl rfl rfl rfl)) (pa_cons (pv 0) (pa_cons pe_int pa_nil))) (fun _ _ => rfl)) pa_nil)))))), ?_⟩)
  · obtain ⟨b, R, D, x, y, z, n, rfl, _⟩ := h
    rfl
  · obtain ⟨b, R, D, x, y, z, n, rfl, hI, hb, hn, go⟩ := h
    wtm_at "go"
    wtm_at "sm"
    refine RIx.pickI (lo := 0) (hi := 400) (by wtm_at "hp") (all_c ⟨_, rfl, by omega, by omega⟩ (all_c ⟨_, rfl, by omega, by omega⟩ (all_c ⟨_, rfl, by omega, by omega⟩ (all_c ⟨_, rfl, by omega, by omega⟩ all_n)))) (by assumption) (by assumption) (fun i1 a0 a1 => ?_)
    wtm_at "sm"
    refine RIx.pickI (lo := -60) (hi := 60) (by wtm_at "hp") (all_c ⟨_, rfl, by omega, by omega⟩ (all_c ⟨_, rfl, by omega, by omega⟩ (all_c ⟨_, rfl, by omega, by omega⟩ (all_c ⟨_, rfl, by omega, by omega⟩ all_n)))) (by assumption) (by assumption) (fun i3 c0 c1 => ?_)
    wtm_at "sm"
    rename_i boB _ _ pt Ht Dt hIt xt et
    exact go pt (i1, i3) _ _ _ _ _ _ hIt (by wtm_at "ex") (by assumption) (by omega) et ⟨a0, a1, c0, c1⟩
theorem lweek_use {b : Addr} {R : Cells} {D H : Hp} {x y z : Int} {n : Nat} {Q : VK} {E : XK} (hI : HI H ((b, bx x y z) :: R) D) (bo : BoxOk n x y z) (hn : n + 100 < 1000000)
  (k : ∀ (q : Addr) (p : Int × Int) x' y' z' n' H' D', HI H' ((b, bx x' y' z') :: R) D' → Ex D D' → BoxOk n' x' y' z' → n' ≤ n + 10 → D' q = some (.tup [.int p.1, .int p.2]) → WOk p → Q (.ref q) H') : spLWeek ([.ref b] ++ []) H Q E := ⟨b, R, D, x, y, z, n, rfl, hI, bo, hn, k⟩
def spLWeeksW : Sp := fun vs H Q _ => ∃ (b : Addr) (R : Cells) (D : Hp) (x y z : Int) (n : Nat), vs = [.ref b] ∧ HI H ((b, bx x y z) :: R) D ∧ BoxOk n x y z ∧ n + 1000 < 1000000 ∧
  ∀ (p : Addr) (xs : List V) (ws : List (Int × Int)) x' y' z' n' H' D', HI H' ((b, bx x' y' z') :: R) D' → Ex D D' → BoxOk n' x' y' z' → n' ≤ n + 600 → D' p = some (.lst xs) → PairsL D' xs ws → 1 ≤ ws.length → ws.length ≤ 52 → (∀ q ∈ ws, WOk q) → Q (.ref p) H'
set_option maxHeartbeats 1000000 in
theorem ok_l_weeks {P : Program} {w : World} {K : PySem.W.Frag} {mg : Str → Option Value} {base : Heap} (T : Tx K mg) : FnG P w K mg base 3 (a_l_weeks K) ["box"] spLWeeksW := by
  refine T.f_l_weeks.ok sc_l_weeks (fun vs H Q E h => ?_) (fun cdv A outer s H vs Q E hgu hr h => ⟨_, (pss_cons (ps_set (i := 1) sc_l_weeks.nd rfl (Or.inl rfl) (pe_ix ix_U (pe_lst (pa_cons pe_int (pa_cons pe_int (pa_cons (pe_op op_addU pe_int (ge_call (ok_l_take T) hgu (hr.mono (by decide)) rfl T.g_l_take T.k_l_take T.b_l_take .nil (fun _ => pass_takes (takes_of rfl rfl rfl rfl)) (pa_cons (pv 0) (pa_cons pe_int pa_nil)))) (pa_cons (pe_op op_addU pe_int (ge_call (ok_l_take T) hgu (hr.mono (by decide)) rfl T.g_l_take T.k_l_take T.b_l_take .nil (fun _ => pass_takes (takes_of rfl rfl rfl rfl)) (pa_cons (pv 0) (pa_cons pe_int pa_nil)))) pa_nil))))) (ge_call (ok_l_take T) hgu (hr.mono (by decide)) rfl T.g_l_take T.k_l_take T.b_l_take .nil (fun _ => pass_takes (takes_of rfl rfl rfl rfl)) (pa_cons (pv 0) (pa_cons pe_int pa_nil))) (fun _ _ => rfl)))
 (pss_one (ps_ret (pe_lc (own := [("k", 2)]) rfl sc_l_weeks.nd (pi_range1 rfl T.n_range (pa_cons (pv 1) pa_nil)) (blkOk_by (own := [("k", 2)]) (N := ["box", "many", "k"]) (sc := defScope s_l_weeks) (by decide +kernel)) (fun _ _ _ _ _ => (pg_name (i := 2) sc_l_weeks.nd rfl (by first | exact Or.inl rfl | exact Or.inr rfl))) (fun _ _ _ _ _ => pts_nil) (fun _ _ _ _ _ => (ge_call (ok_l_week T) hgu (hr.mono (by decide)) rfl T.g_l_week T.k_l_week T.b_l_week .nil (fun _ => pass_none) (pa_cons (pv 0) pa_nil))))))), ?_⟩)
  · obtain ⟨b, R, D, x, y, z, n, rfl, _⟩ := h
    rfl
  · obtain ⟨b, R, D, x, y, z, n, rfl, hI, hb, hn, go⟩ := h
    wtm_at "go"
    wtm_at "sm"
    rename_i r1 x1 y1 z1 H1 hI1 bo1 r10 r11 r2 x2 y2 z2 H2 hI2 bo2 r20 r21 pl Hl Dl hIl xl el r3 x3 y3 z3 H3 hI3 bo3 r30 r31
    refine RIx.pickI (lo := 1) (hi := 52) (hI3.dat el) (all_c ⟨_, rfl, by omega, by omega⟩ (all_c ⟨_, rfl, by omega, by omega⟩ (all_c ⟨_, rfl, by omega, by omega⟩ (all_c ⟨_, rfl, by omega, by omega⟩ all_n)))) (by assumption) (by assumption) (fun many a0 a1 => ?_)
    wtm_at "sm"
    refine lc_rng (fun j acc R' D' => ∃ (ws : List (Int × Int)) (x y z : Int) (n' : Nat), R' = (b, bx x y z) :: R ∧ BoxOk n' x y z ∧ n' ≤ n + 3 + 10 * j ∧ Ex D D' ∧ ws.length = j ∧ PairsL D' acc ws ∧ ∀ q ∈ ws, WOk q) hI3 ⟨[], _, _, _, _, rfl, bo3, by omega, by wtm_at "ex", rfl, .nil, all_n⟩ (fun L j acc R' D' H' hj hI' p hl => ?_) (fun La acc R' D' H' hI' p hl => ?_)
    · obtain ⟨ws, x4, y4, z4, n4, rfl, bo4, hn4, xq, wl, pa, wa⟩ := p
      wtm_at "sm"
      refine lweek_use hI'.swap bo4 (by omega) (fun q pq x5 y5 z5 n5 H5 D5 hI5 x5' bo5 hn5 eq wq => ?_)
      refine le_mk hI5.swap ⟨ws ++ [pq], _, _, _, _, rfl, bo5, by omega, xq.trans x5', by rw [List.length_append, wl]; rfl, (pa.mono x5').snoc ⟨q, rfl, eq⟩, fun r hr => ?_⟩ hl (by omega)
      rcases List.mem_append.mp hr with h | h
      · exact wa r h
      · rw [List.mem_singleton.mp h]
        exact wq
    · obtain ⟨ws, x4, y4, z4, n4, rfl, bo4, hn4, xq, wl, pa, wa⟩ := p
      obtain ⟨DF, hF, xF, eF⟩ := hI'.fr1
      exact go La acc ws _ _ _ _ _ _ hF (xq.trans xF) bo4 (by omega) eF (pa.mono xF) (by omega) (by omega) wa
theorem lweeksW_use {b : Addr} {R : Cells} {D H : Hp} {x y z : Int} {n : Nat} {Q : VK} {E : XK} (hI : HI H ((b, bx x y z) :: R) D) (hb : BoxOk n x y z) (hn : n + 1000 < 1000000)
    (q : ∀ (p : Addr) (xs : List V) (ws : List (Int × Int)) x' y' z' n' H' D', HI H' ((b, bx x' y' z') :: R) D' → Ex D D' → BoxOk n' x' y' z' → n' ≤ n + 600 → D' p = some (.lst xs) → PairsL D' xs ws → 1 ≤ ws.length → ws.length ≤ 52 → (∀ q ∈ ws, WOk q) → Q (.ref p) H') : spLWeeksW [.ref b] H Q E := ⟨b, R, D, x, y, z, n, rfl, hI, hb, hn, q⟩
def spTurned : Sp := fun vs H Q _ => ∃ (b p : Addr) (xs : List V) (R : Cells) (D : Hp) (x y z : Int) (n : Nat), vs = [.ref b, .ref p] ∧ HI H ((b, bx x y z) :: R) D ∧ BoxOk n x y z ∧ n + 200 < 1000000 ∧ D p = some (.lst xs) ∧ xs.length ≤ 100 ∧
  ∀ (q : Addr) (ys : List V) x' y' z' n' H' D', HI H' ((b, bx x' y' z') :: R) D' → Ex D D' → BoxOk n' x' y' z' → n' ≤ n + 100 → D' q = some (.lst ys) → ys.Perm xs → Q (.ref q) H'
theorem erase_perm {α : Type} : ∀ {ls : List α} {i : Nat} {y : α}, ls[i]? = some y → (y :: ls.eraseIdx i).Perm ls
  | [], _, _, h => by simp at h
  | x :: ls, 0, y, h => by
    cases h
    exact List.Perm.refl _
  | x :: ls, i + 1, y, h => by
    rw [List.eraseIdx_cons_succ]
    exact (List.Perm.swap x y _).trans ((erase_perm (by simpa using h)).cons x)
def turnI (b p lf fd : Addr) (xs : List V) (n : Nat) (R : Cells) (D : Hp) (m : Nat) (σ : L2.St) (R' : Cells) (D' : Hp) : Prop := ∃ (ls fs : List V) (x y z : Int) (n' : Nat), σ = [some (.ref b), some (.ref p), some (.ref lf), some (.ref fd)] ∧ m = ls.length ∧ R' = (fd, .lst fs) :: (lf, .lst ls) :: (b, bx x y z) :: R ∧ BoxOk n' x y z ∧ n' + ls.length ≤ n + xs.length ∧ (ls ++ fs).Perm xs ∧ Ex D D'
set_option maxHeartbeats 1000000 in
theorem ok_l_turned {P : Program} {w : World} {K : PySem.W.Frag} {mg : Str → Option Value} {base : Heap} (T : Tx K mg) : FnG P w K mg base 2 (a_l_turned K) ["box", "rows"] spTurned := by
  refine T.f_l_turned.ok sc_l_turned (fun vs H Q E h => ?_) (fun cdv A outer s H vs Q E hgu hr h => ⟨_, (pss_cons (ps_set (i := 2) sc_l_turned.nd rfl (Or.inl rfl) (pe_callTy call_listUM (by rfl) T.n_list boot_list (pa_cons (pv 1) pa_nil)))
 (pss_cons (ps_set (i := 3) sc_l_turned.nd rfl (Or.inl rfl) (pe_lstM pa_nil))
 (pss_cons (ps_while (passes_of rfl) (pt_cmpR (op_neI hr.units) (pv 2) (pe_lst pa_nil) (nomark _)) (pss_one (ps_expr (pe_bm PySem.F.plainAttrs_list PySem.F.slot_list_append PySem.F.type_list_append mt_append (pv 3) (pa_cons (pe_bm PySem.F.plainAttrs_list PySem.F.slot_list_pop PySem.F.type_list_pop mt_popAt (pv 2) (pa_cons (ge_call (ok_l_take T) hgu (hr.mono (by decide)) rfl T.g_l_take T.k_l_take T.b_l_take .nil (fun _ => pass_takes (takes_of rfl rfl rfl rfl)) (pa_cons (pv 0) (pa_cons (pe_callB (call_lenU) (by rfl) T.n_len boot_len (pa_cons (pv 2) pa_nil)) pa_nil))) pa_nil)) pa_nil)))))
 (pss_one (ps_ret (pv 3)))))), ?_⟩)
  · obtain ⟨b, p, xs, R, D, x, y, z, n, rfl, _⟩ := h
    rfl
  · obtain ⟨b, p, xs, R, D, x, y, z, n, rfl, hI, hb, hn, ep, xl, go⟩ := h
    wtm_at "go"
    wtm_at "sm"
    rename_i lf H1 hI1 fd H2 hI2
    refine while_hi (m := xs.length) (turnI b p lf fd xs n R D) hI2 ⟨xs, [], _, _, _, n, rfl, rfl, rfl, hb, Nat.le_refl _, by rw [List.append_nil], Ex.refl _⟩ (fun m σ R' D' H' hI' q => ?_)
    obtain ⟨ls, fs, x', y', z', n', rfl, rfl, rfl, bo', hn', pm, xq⟩ := q
    have ll := pm.length_eq
    rw [List.length_append] at ll
    wtm_at "sm"
    rename_i pe H3 D3 hI3 x3 e3
    cases ls with
    | nil =>
      refine .same (hI3.get (by wtm_at "mem")) (hI3.dat e3) all_n ?_
      wtm_at "sm"
      obtain ⟨DF, hF, xF, eF⟩ := hI3.fr1
      exact go fd fs _ _ _ _ _ _ hF.drop (xq.trans (x3.trans xF)) bo' (by simp at hn'; omega) eF (by simpa using pm)
    | cons v0 rest =>
      refine .len (hI3.get (by wtm_at "mem")) (hI3.dat e3) (by simp) ?_
      wtm_at "sm"
      refine ⟨NW (turnI b p lf fd xs n R D) (v0 :: rest).length, fun σ' H' ⟨m', R', D', a, b, c⟩ => ⟨m', a, R', D', b, c⟩, ?_⟩
      have hpos : 0 < (v0 :: rest).length := Nat.succ_pos _
      generalize (v0 :: rest) = ls at *
      wtm_at "sm"
      rename_i pi x4 y4 z4 H4 hI4 bo4 pi0 pi1
      have hI5 : HI H4 ((lf, HO.lst ls) :: (b, bx x4 y4 z4) :: (fd, HO.lst fs) :: R) D3 := by
        first | exact hI4.swap.up2 | exact hI4.up2 | exact hI4.dn2.swap | exact hI4.dn2 | exact hI4.up2.swap
      refine pop_now hI5 pi0 pi1 (by omega) (fun yv H6 hy hI6 => ?_)
      have hI7 : HI H6 ((fd, HO.lst fs) :: (lf, HO.lst (ls.eraseIdx pi.toNat)) :: (b, bx x4 y4 z4) :: R) D3 := hI6.up2
      have hlt : pi.toNat < ls.length := by omega
      have hel : (ls.eraseIdx pi.toNat).length + 1 = ls.length := by
        rw [List.length_eraseIdx, if_pos hlt]
        omega
      wtm_at "sm"
      rename_i H8 hI8
      have pm2 : (ls.eraseIdx pi.toNat ++ (fs ++ [yv])).Perm (ls ++ fs) := by
        have h1 : (yv :: ls.eraseIdx pi.toNat).Perm ls := by
          exact erase_perm hy
        refine List.Perm.trans ?_ (h1.append_right fs)
        refine List.Perm.trans (List.Perm.append_left _ List.perm_append_comm) ?_
        exact List.perm_middle
      exact ⟨_, _, _, by omega, hI8, ls.eraseIdx pi.toNat, fs ++ [yv], _, _, _, _, rfl, rfl, rfl, bo4, by omega, pm2.trans pm, xq.trans x3⟩
theorem turned_use {b p : Addr} {xs : List V} {R : Cells} {D H : Hp} {x y z : Int} {n : Nat} {Q : VK} {E : XK} (hI : HI H ((b, bx x y z) :: R) D) (bo : BoxOk n x y z) (hn : n + 200 < 1000000) (ep : D p = some (.lst xs)) (xl : xs.length ≤ 100)
  (go : ∀ (q : Addr) (ys : List V) x' y' z' n' H' D', HI H' ((b, bx x' y' z') :: R) D' → Ex D D' → BoxOk n' x' y' z' → n' ≤ n + 100 → D' q = some (.lst ys) → ys.Perm xs → Q (.ref q) H') : spTurned ([.ref b, .ref p] ++ []) H Q E := ⟨b, p, xs, R, D, x, y, z, n, rfl, hI, bo, hn, ep, xl, go⟩
theorem YrAt.ins {K : PySem.W.Frag} {R : Cells} {D : Hp} {a : Addr} {f : Int → Int × Int} {n : Int} (h : YrAt K R D a f n) : ∃ nl td dx, D a = some (.ins (He.ga K "Year") dx [("kept_normal", .ref nl), ("kept_told", .ref td)]) := by
  obtain ⟨nl, td, ns, kvs, m, ⟨⟨dx, e⟩, _⟩, _⟩ := h
  exact ⟨nl, td, dx, e⟩
theorem ylen_use {K : PySem.W.Frag} {y : Addr} {f : Int → Int × Int} {n : Int} {R : Cells} {D H : Hp} {Q : VK} (hI : HI H R D) (yr : YrAt K R D y f n) (q : Q (.int n) H) : RLenO (He.ga K "Year") (spYLen K) [.ref y] H Q := by
  obtain ⟨nl, td, dx, e⟩ := yr.ins
  have := yr.nn
  exact .o (hI.dat e) ⟨y, f, n, R, D, rfl, hI, yr, n, rfl, by omega, by omega, q⟩
theorem ytold_use {K : PySem.W.Frag} {a nl td : Addr} {ns : List (Int × Int)} {kvs : List (Key × V)} {m : Int → Option (Int × Int)} {R : Cells} {D H : Hp} {Q : VK} {E : XK} (hI : HI H R D) (iy : IsYr K D a nl td ns) (mm : ((td, HO.dK kvs) : Addr × HO) ∈ R) (t : Told D kvs m ns.length)
    (q : ∀ (p : Addr) (ks : List Int) (kvs' : List (Key × V)) H' D', HI H' R D' → Ex D D' → D' p = some (.dK kvs') → Told D' kvs' m ns.length → kvs'.map (·.1) = ks.map Sum.inl → ks.Pairwise (· ≤ ·) → ks.Nodup → (∀ k, k ∈ ks ↔ (m k).isSome = true) → Q (.ref p) H') : spYTold K [.ref a] H Q E := ⟨a, nl, td, ns, kvs, m, R, D, rfl, hI, iy, mm, t, q⟩
theorem back_use {K : PySem.W.Frag} {a nl td : Addr} {ns : List (Int × Int)} {kvs : List (Key × V)} {m : Int → Option (Int × Int)} {k : Int} {R : Cells} {D H : Hp} {Q : VK} {E : XK} (hI : HI H ((td, .dK kvs) :: R) D) (iy : IsYr K D a nl td ns) (t : Told D kvs m ns.length) (k0 : 1 ≤ k) (k1 : k ≤ ns.length) (hm : (m k).isSome = true)
    (q : ∀ kvs' H', HI H' ((td, .dK kvs') :: R) D → Told D kvs' (putM m k none) ns.length → Q .non H') : spBackG K [.ref a, .int k] H Q E := ⟨a, nl, td, ns, kvs, m, k, R, D, rfl, hI, iy, t, k0, k1, hm, q⟩
theorem putM_back {m : Int → Option (Int × Int)} {k : Int} {q : Int × Int} (h : m k = none) : putM (putM m k (some q)) k none = m := by
  funext j
  unfold putM
  by_cases e : j = k
  · rw [if_pos e, e, h]
  · rw [if_neg e, if_neg e]
theorem tellN_use {K : PySem.W.Frag} {a nl td : Addr} {ns : List (Int × Int)} {kvs : List (Key × V)} {m : Int → Option (Int × Int)} {k w : Int} {R : Cells} {D H : Hp} {Q : VK} {E : XK} (hI : HI H ((td, .dK kvs) :: R) D) (iy : IsYr K D a nl td ns) (t : Told D kvs m ns.length) (k0 : 1 ≤ k) (k1 : k ≤ ns.length) (w0 : 0 ≤ w) (w1 : w ≤ 400)
    (q : ∀ kvs' H' D', HI H' ((td, .dK kvs') :: R) D' → Ex D D' → Told D' kvs' (putM m k (some (w, (stand ns m k).2))) ns.length → Q .non H') : spTell K [.ref a, .int k, .int w, .non] H Q E :=
  ⟨a, nl, td, ns, kvs, m, .int k, .int w, .non, R, D, rfl, hI, iy, t, (Th.kn (.int _)).m, (Th.kn (.int _)).m, (Th.kn .non).m, (fun k' w' ci e1 e2 e3 _ _ _ _ _ kvs' H' D' h x t' => by
      cases e1; cases e2
      cases ci with
      | none => exact q _ _ _ h x t'
      | some z => cases e3), (fun h => absurd h (by rw [whole_ok k0 k1]; decide)), (fun _ h => absurd h (by rw [whole_ok w0 w1]; decide)), (fun _ _ hn h => absurd rfl hn)⟩
/-- the told weeks, rising -/
def ksOf (m : Int → Option (Int × Int)) (n : Nat) : List Int := ((List.range n).map fun (i : Nat) => (i : Int) + 1).filter fun k => (m k).isSome
theorem ksOf_rise {m : Int → Option (Int × Int)} {n : Nat} : (ksOf m n).Pairwise (· < ·) := by
  refine List.Pairwise.filter _ ?_
  rw [List.pairwise_map]
  exact (List.pairwise_lt_range (n := n)).imp fun {a b} h => by omega
theorem ksOf_mem {D : Hp} {kvs : List (Key × V)} {m : Int → Option (Int × Int)} {n : Nat} (t : Told D kvs m n) (k : Int) : k ∈ ksOf m n ↔ (m k).isSome = true := by
  unfold ksOf
  rw [List.mem_filter, List.mem_map]
  refine ⟨fun h => h.2, fun h => ⟨?_, h⟩⟩
  obtain ⟨p, em⟩ := Option.isSome_iff_exists.mp h
  obtain ⟨_, _, _, _, k0, k1⟩ := t.yes k p em
  exact ⟨(k - 1).toNat, List.mem_range.mpr (by omega), by omega⟩
theorem ksOf_eq {D : Hp} {kvs : List (Key × V)} {m : Int → Option (Int × Int)} {n : Nat} {ks : List Int} (t : Told D kvs m n) (h1 : ks.Pairwise (· ≤ ·)) (nd : ks.Nodup) (h : ∀ k, k ∈ ks ↔ (m k).isSome = true) : ks = ksOf m n :=
  sorted_uniq (rising h1 nd) ksOf_rise fun k => (h k).trans (ksOf_mem t k).symm
def oMD : Option Int → PyData
  | none => .none
  | some i => .int i
theorem oMD_rep {H : Hp} {o : Option Int} : Rep H (oV o) (oMD o) := by
  cases o with
  | none => exact .non
  | some i => exact .int i
def allD (ns : List (Int × Int)) (m : Int → Option (Int × Int)) : PyData :=
  let f := stand ns m
  .list [.list ((wksOf f ns.length).map pD), toldD (ksOf m ns.length) m, .int (ns.length : Nat), .int (wms f 1 ns.length).sum, oMD (cls f 1 ns.length).min?, .list (((List.range ns.length).map fun (k : Nat) => (f ((k : Int) + 1)).1).map PyData.int), .list (((List.range ns.length).map fun (k : Nat) => (f ((k : Int) + 1)).2).map PyData.int)]
theorem sum_bd : ∀ {l : List Int}, (∀ x ∈ l, 0 ≤ x ∧ x ≤ 400) → 0 ≤ l.sum ∧ l.sum ≤ 400 * l.length
  | [], _ => ⟨Int.le_refl _, Int.le_refl _⟩
  | x :: l, h => by
    have a := sum_bd (l := l) fun y hy => h y (List.mem_cons_of_mem _ hy)
    have b := h x (List.mem_cons_self ..)
    rw [List.sum_cons, List.length_cons]
    omega
theorem sm_i4 {i : Int} (a : -100000 ≤ i) (b : i ≤ 100000) : Sm (.int i) 31 0 := Sm.int (Nat.lt_of_le_of_lt (by omega : i.natAbs ≤ 100000) (by decide))
theorem sm_ints4 {l : List Int} (h : ∀ x ∈ l, -100000 ≤ x ∧ x ≤ 100000) (hl : l.length ≤ 60) : Sm (.list (l.map PyData.int)) 3000 1 := by
  refine (Sm.list (n := 31) (k := 0) fun d hd => ?_).mono ?_ (Nat.le_refl _)
  · obtain ⟨i, hi, rfl⟩ := List.mem_map.mp hd
    exact sm_i4 (h i hi).1 (h i hi).2
  · rw [List.length_map]
    omega
theorem sm_allD {K : PySem.W.Frag} {R : Cells} {D : Hp} {y td : Addr} {kvs : List (Key × V)} {ns : List (Int × Int)} {m : Int → Option (Int × Int)} (yr : YrAt K R D y (stand ns m) ns.length) (t : Told D kvs m ns.length) : Sm (allD ns m) 200000 3 := by
  obtain ⟨n1, n52⟩ := yr.nn
  have ok : ∀ k : Nat, k < ns.length → WOk (stand ns m ((k : Int) + 1)) := fun k hk => yr.ok (by omega) (by omega)
  have hw : ∀ x ∈ wms (stand ns m) 1 ns.length, 0 ≤ x ∧ x ≤ 400 := fun x hx => by
    obtain ⟨j, hj, rfl⟩ := List.mem_map.mp hx
    have hj := List.mem_range.mp hj
    obtain ⟨a, b, _, _⟩ := yr.ok (k := 1 + (j : Int)) (by omega) (by omega)
    exact ⟨a, b⟩
  have hc : ∀ x ∈ cls (stand ns m) 1 ns.length, -60 ≤ x ∧ x ≤ 60 := fun x hx => by
    obtain ⟨j, hj, rfl⟩ := List.mem_map.mp hx
    have hj := List.mem_range.mp hj
    obtain ⟨_, _, a, b⟩ := yr.ok (k := 1 + (j : Int)) (by omega) (by omega)
    exact ⟨a, b⟩
  have hs := sum_bd hw
  have lw : (wms (stand ns m) 1 ns.length).length = ns.length := by
    unfold wms
    rw [List.length_map, List.length_range]
    omega
  rw [lw] at hs
  have s1 : Sm (.list ((wksOf (stand ns m) ns.length).map pD)) 20000 2 := (sm_pairs (fun q hq => by
    unfold wksOf at hq
    obtain ⟨j, hj, rfl⟩ := List.mem_map.mp hq
    exact ok j (List.mem_range.mp hj)) (by rw [wksOf_len]; omega)).mono (by omega) (Nat.le_refl _)
  have s2 : Sm (toldD (ksOf m ns.length) m) 20000 2 := sm_told t (ksOf_mem t) (by omega) (by
    unfold ksOf
    refine Nat.le_trans (List.length_filter_le _ _) ?_
    rw [List.length_map, List.length_range]
    omega)
  have s5 : Sm (oMD (cls (stand ns m) 1 ns.length).min?) 31 0 := by
    cases e : (cls (stand ns m) 1 ns.length).min? with
    | none => exact Sm.non.mono (by omega) (by omega)
    | some i =>
      have := hc i (List.min?_mem e)
      exact sm_i4 (by omega) (by omega)
  have s6 : Sm (.list (((List.range ns.length).map fun (k : Nat) => (stand ns m ((k : Int) + 1)).1).map PyData.int)) 3000 1 := sm_ints4 (fun x hx => by
    obtain ⟨j, hj, rfl⟩ := List.mem_map.mp hx
    obtain ⟨a, b, _, _⟩ := ok j (List.mem_range.mp hj)
    exact ⟨by omega, by omega⟩) (by rw [List.length_map, List.length_range]; omega)
  have s7 : Sm (.list (((List.range ns.length).map fun (k : Nat) => (stand ns m ((k : Int) + 1)).2).map PyData.int)) 3000 1 := sm_ints4 (fun x hx => by
    obtain ⟨j, hj, rfl⟩ := List.mem_map.mp hx
    obtain ⟨_, _, a, b⟩ := ok j (List.mem_range.mp hj)
    exact ⟨by omega, by omega⟩) (by rw [List.length_map, List.length_range]; omega)
  refine (Sm.list (n := 20000) (k := 2) (all_c s1 (all_c s2 (all_c ((sm_i4 (by omega) (by omega)).mono (by omega) (by omega)) (all_c ((sm_i4 (by omega) (by omega)).mono (by omega) (by omega)) (all_c (s5.mono (by omega) (by omega)) (all_c (s6.mono (by omega) (by omega)) (all_c (s7.mono (by omega) (by omega)) all_n)))))))).mono ?_ (Nat.le_refl _)
  show 20000 * 7 + 2 * 7 + 3 ≤ 200000
  omega
def spLAll (K : PySem.W.Frag) : Sp := fun vs H Q _ => ∃ (y nl td : Addr) (ns : List (Int × Int)) (kvs : List (Key × V)) (m : Int → Option (Int × Int)) (R : Cells) (D : Hp), vs = [.ref y, .int ns.length] ∧ HI H R D ∧ IsYr K D y nl td ns ∧ ((td, HO.dK kvs) : Addr × HO) ∈ R ∧ Told D kvs m ns.length ∧
  ∀ H' D', HI H' R D' → Ex D D' → Q (.str (allD ns m).shown) H'
set_option maxHeartbeats 2000000 in
theorem ok_l_all {P : Program} {w : World} {K : PySem.W.Frag} {mg : Str → Option Value} {base : Heap} (T : Tx K mg) : FnG P w K mg base 6 (a_l_all K) ["year", "many"] (spLAll K) := by
  refine T.f_l_all.ok sc_l_all (fun vs H Q E h => ?_) (fun cdv A outer s H vs Q E hgu hr h => ⟨_, (pss_cons (ps_set (i := 2) sc_l_all.nd rfl (Or.inl rfl) (pe_lst (pa_cons (ge_meth0 (pv 0) T.cl_Year T.m_Year_weeks (ok_Year_weeks T) hgu (hr.mono (by decide)) T.b_Year_weeks .nil (fun _ => pass_takes (takes_of rfl rfl rfl rfl))) (pa_cons (ge_meth0 (pv 0) T.cl_Year T.m_Year_told (ok_Year_told T) hgu (hr.mono (by decide)) T.b_Year_told .nil (fun _ => pass_takes (takes_of rfl rfl rfl rfl))) (pa_cons (pe_callB (call_lenO T.m_Year_len.at_ T.m_Year_len.fn (ok_Year_len T) T.b_Year_len hgu (hr.mono (by decide))) (by rfl) T.n_len boot_len (pa_cons (pv 0) pa_nil)) (pa_cons (ge_meth (pv 0) T.cl_Year T.m_Year_warm_sum (ok_Year_warm_sum T) hgu (hr.mono (by decide)) T.b_Year_warm_sum .nil (fun _ => pass_takes (takes_of rfl rfl rfl rfl)) (pa_cons pe_int (pa_cons (pv 1) pa_nil))) (pa_cons (ge_meth (pv 0) T.cl_Year T.m_Year_coldest (ok_Year_coldest T) hgu (hr.mono (by decide)) T.b_Year_coldest .nil (fun _ => pass_takes (takes_of rfl rfl rfl rfl)) (pa_cons pe_int (pa_cons (pv 1) pa_nil))) pa_nil)))))))
 (pss_one (ps_ret (pe_callB (call_repr hgu hr T.sys) (by rfl) T.n_repr boot_repr (pa_cons (pe_op op_addU (pv 2) (pe_lst (pa_cons (pe_lc (own := [("k", 3)]) rfl sc_l_all.nd (pi_range1 rfl T.n_range (pa_cons (pv 1) pa_nil)) (blkOk_by (own := [("k", 3)]) (N := ["year", "many", "found", "k"]) (sc := defScope s_l_all) (by decide +kernel)) (fun _ _ _ _ _ => (pg_name (i := 3) sc_l_all.nd rfl (by first | exact Or.inl rfl | exact Or.inr rfl))) (fun _ _ _ _ _ => pts_nil) (fun _ _ _ _ _ => (ge_meth (pv 0) T.cl_Year T.m_Year_warmth (ok_Year_warmth T) hgu (hr.mono (by decide)) T.b_Year_warmth .nil (fun _ => pass_none) (pa_cons (pe_op op_addU (pv 3) pe_int) pa_nil)))) (pa_cons (pe_lc (own := [("k", 3)]) rfl sc_l_all.nd (pi_range1 rfl T.n_range (pa_cons (pv 1) pa_nil)) (blkOk_by (own := [("k", 3)]) (N := ["year", "many", "found", "k"]) (sc := defScope s_l_all) (by decide +kernel)) (fun _ _ _ _ _ => (pg_name (i := 3) sc_l_all.nd rfl (by first | exact Or.inl rfl | exact Or.inr rfl))) (fun _ _ _ _ _ => pts_nil) (fun _ _ _ _ _ => (ge_meth (pv 0) T.cl_Year T.m_Year_cold (ok_Year_cold T) hgu (hr.mono (by decide)) T.b_Year_cold .nil (fun _ => pass_none) (pa_cons (pe_op op_addU (pv 3) pe_int) pa_nil)))) pa_nil)))) pa_nil))))), ?_⟩)
  · obtain ⟨y, nl, td, ns, kvs, m, R, D, rfl, _⟩ := h
    rfl
  · obtain ⟨y, nl, td, ns, kvs, m, R, D, rfl, hI, iy, mm, told, go⟩ := h
    have yr := iy.at mm told
    obtain ⟨n1, n52⟩ := yr.nn
    obtain ⟨⟨dx, ea⟩, _⟩ := id iy
    wtm_at "go"
    wtm_at "sm"
    refine yweeks_use hI yr (fun p1 xs1 H1 D1 hI1 x1 pl1 => ?_)
    obtain ⟨D2, hI2, x2, e2⟩ := hI1.fr1
    have x02 := x1.trans x2
    have ea2 := x02 _ _ ea
    wtm_at "sm"
    refine ytold_use hI2 (iy.mono x02) mm (told.mono x02) (fun p3 ks kvs' H3 D3 hI3 x3 e3 t3 ek3 hp3 hn3 hin3 => ?_)
    have eks := ksOf_eq told hp3 hn3 hin3
    subst eks
    have x03 := x02.trans x3
    have ea3 := x03 _ _ ea
    wtm_at "sm"
    refine ylen_use hI3 (yr.mono x03) ?_
    wtm_at "sm"
    refine warm_use hI3 (yr.mono x03) (by omega) (by omega) (by omega) (by omega) (fun H4 D4 hI4 x4 => ?_)
    have x04 := x03.trans x4
    have ea4 := x04 _ _ ea
    wtm_at "sm"
    refine coldest_use hI4 (yr.mono x04) (by omega) (by omega) (by omega) (by omega) (fun H5 D5 hI5 x5 => ?_)
    have x05 := x04.trans x5
    have ea5 := x05 _ _ ea
    wtm_at "sm"
    rename_i p6 H6 D6 hI6 x6 e6
    have x06 := x05.trans x6
    refine lc_rng (fun k acc R' D' => R' = R ∧ Ex D6 D' ∧ acc = ((List.range k).map fun (q : Nat) => (stand ns m ((q : Int) + 1)).1).map V.int) hI6 ⟨rfl, Ex.refl _, rfl⟩ (fun L k acc R' D' H' hk hI' q hl => ?_) (fun L acc R' D' H' hI' q hl => ?_)
    · obtain ⟨rfl, xq, rfl⟩ := q
      have eaq := (x06.trans xq) _ _ ea
      wtm_at "sm"
      refine wc_use hI' ((yr.mono (x06.trans xq)).cell) (by omega) (by omega) (fun H7 hI7 => ?_)
      refine le_mk hI7 ⟨rfl, xq, ?_⟩ hl (by omega)
      rw [List.range_succ, List.map_append, List.map_append, show (0 : Int) + (k : Int) + 1 = (k : Int) + 1 by omega]
      rfl
    · obtain ⟨rfl, xq, rfl⟩ := q
      obtain ⟨D7, hI7, x7, e7⟩ := hI'.fr1
      have x07 := x06.trans (xq.trans x7)
      wtm_at "sm"
      refine lc_rng (fun k acc R2 D2 => R2 = R' ∧ Ex D7 D2 ∧ acc = ((List.range k).map fun (q : Nat) => (stand ns m ((q : Int) + 1)).2).map V.int) hI7 ⟨rfl, Ex.refl _, rfl⟩ (fun L2 k acc R2 D2' H2' hk hI2' q hl2 => ?_) (fun L2 acc R2 D2' H2' hI2' q hl2 => ?_)
      · obtain ⟨rfl, xq2, rfl⟩ := q
        have eaq := (x07.trans xq2) _ _ ea
        wtm_at "sm"
        refine wc_use hI2' ((yr.mono (x07.trans xq2)).cell) (by omega) (by omega) (fun H8 hI8 => ?_)
        refine le_mk hI8 ⟨rfl, xq2, ?_⟩ hl2 (by omega)
        rw [List.range_succ, List.map_append, List.map_append, show (0 : Int) + (k : Int) + 1 = (k : Int) + 1 by omega]
        rfl
      · obtain ⟨rfl, xq2, rfl⟩ := q
        obtain ⟨D8, hI8, x8, e8⟩ := hI2'.fr1
        have x68 := xq.trans (x7.trans (xq2.trans x8))
        have e68 := x68 _ _ e6
        wtm_at "sm"
        rename_i p9 H9 D9 hI9 x9 e9 p10 H10 D10 hI10 x10 e10
        have x810 := x9.trans x10
        have x710 := (xq2.trans x8).trans x810
        have x610 := x68.trans x810
        have x310 := x4.trans (x5.trans (x6.trans x610))
        have x210 := x3.trans x310
        have c1 : ((ns.length : Nat) : Int).toNat = ns.length := by omega
        rw [c1] at e7 e8
        have rall : Rep D10 (.ref p10) (allD ns m) := by
          unfold allD
          refine .lst e10 (.cons (.lst (x210 _ _ e2) (rep_pairs (pl1.mono (x2.trans x210)))) (.cons ((t3.mono x310).repD (x310 _ _ e3) ek3 hn3) (.cons (.int _) (.cons (.int _) (.cons oMD_rep (.cons (.lst (x710 _ _ e7) (ints_rep _)) (.cons (.lst (x810 _ _ e8) (ints_rep _)) .nil)))))))
        refine repr_sm (hI10.rep rall) (sm_allD (td := td) yr told) (by decide) (by decide) ?_
        wtm_at "sm"
        exact go _ _ hI10 (x06.trans x610)
/-- a told row: a week, a warmth, a cold -/
abbrev Tri := Int × Int × Int
def TriAt (D : Hp) (v : V) (t : Tri) : Prop := ∃ q, v = .ref q ∧ D q = some (.tup [.int t.1, .int t.2.1, .int t.2.2])
theorem TriAt.mono {D D' : Hp} {v : V} {t : Tri} (h : TriAt D v t) (x : Ex D D') : TriAt D' v t := let ⟨q, e, h⟩ := h; ⟨q, e, x _ _ h⟩
def TriOk (n : Nat) (t : Tri) : Prop := 1 ≤ t.1 ∧ t.1 ≤ n ∧ WOk t.2
def spLBetween (K : PySem.W.Frag) : Sp := fun vs H Q _ => ∃ (b y nl td pl : Addr) (ns : List (Int × Int)) (kvs : List (Key × V)) (m : Int → Option (Int × Int)) (xs : List V) (ts : List Tri) (R : Cells) (D : Hp) (x y' z : Int) (n : Nat), vs = [.ref b, .ref y, .int ns.length, .ref pl] ∧ HI H ((b, bx x y' z) :: (td, .dK kvs) :: R) D ∧ BoxOk n x y' z ∧ n + 200 < 1000000 ∧ IsYr K D y nl td ns ∧ Told D kvs m ns.length ∧
  D pl = some (.lst xs) ∧ Paired (TriAt D) xs ts ∧ xs.length ≤ 100 ∧ (∀ t ∈ ts, TriOk ns.length t) ∧
  ∀ x1 y1 z1 n1 kvs' m' H' D', HI H' ((b, bx x1 y1 z1) :: (td, .dK kvs') :: R) D' → Ex D D' → BoxOk n1 x1 y1 z1 → n1 ≤ n + 20 → Told D' kvs' m' ns.length → (∀ j, (∀ t ∈ ts, j ≠ t.1) → m' j = m j) → Q .non H'
set_option maxHeartbeats 2000000 in
theorem ok_l_between {P : Program} {w : World} {K : PySem.W.Frag} {mg : Str → Option Value} {base : Heap} (T : Tx K mg) : FnG P w K mg base 6 (a_l_between K) ["box", "year", "weeks", "later"] (spLBetween K) := by
  refine T.f_l_between.ok sc_l_between (fun vs H Q E h => ?_) (fun cdv A outer s H vs Q E hgu hr h => ⟨_, (pss_cons (ps_set (i := 4) sc_l_between.nd rfl (Or.inl rfl) (ge_call (ok_l_take T) hgu (hr.mono (by decide)) rfl T.g_l_take T.k_l_take T.b_l_take .nil (fun _ => pass_takes (takes_of rfl rfl rfl rfl)) (pa_cons (pv 0) (pa_cons pe_int pa_nil))))
 (pss_cons (ps_asg (ge_call (ok_l_week T) hgu (hr.mono (by decide)) rfl T.g_l_week T.k_l_week T.b_l_week .nil (fun _ => pass_takes (takes_of rfl rfl rfl rfl)) (pa_cons (pv 0) pa_nil)) (pg_tup (by rfl) (pgs_cons (pg_name (i := 5) sc_l_between.nd rfl (Or.inl rfl)) (pgs_cons (pg_name (i := 6) sc_l_between.nd rfl (Or.inl rfl)) pgs_nil))))
 (pss_cons (ps_if (PW.pt (pw_and (pt_cmpR (op_eqU hr.units) (pv 4) pe_int (nomark _)) (pw_and1 (pt_cmpR (op_neI hr.units) (pv 3) (pe_lst pa_nil) (nomark _))))) (pss_one (ps_expr (ge_methN (pv 1) T.cl_Year T.m_Year_tell (ok_Year_tell T) hgu (hr.mono (by decide)) T.kb_Year_tell_4 (fun _ => pass_takes (takes_of rfl rfl rfl rfl)) (pa_cons (pe_ix ix_U (pe_ix ix_U (pv 3) (ge_call (ok_l_take T) hgu (hr.mono (by decide)) rfl T.g_l_take T.k_l_take T.b_l_take .nil (fun _ => pass_takes (takes_of rfl rfl rfl rfl)) (pa_cons (pv 0) (pa_cons (pe_callB (call_lenU) (by rfl) T.n_len boot_len (pa_cons (pv 3) pa_nil)) pa_nil))) (fun _ _ => rfl)) pe_int (fun _ _ => rfl)) (pa_cons (pv 5) (pa_cons (pv 6) pa_nil))) pk_nil))) pss_nil)
 (pss_cons (ps_set (i := 7) sc_l_between.nd rfl (Or.inl rfl) (pe_op op_addU pe_int (ge_call (ok_l_take T) hgu (hr.mono (by decide)) rfl T.g_l_take T.k_l_take T.b_l_take .nil (fun _ => pass_takes (takes_of rfl rfl rfl rfl)) (pa_cons (pv 0) (pa_cons (pv 2) pa_nil)))))
 (pss_one (ps_if (PW.pt (pw_and (pt_cmpR (op_eqU hr.units) (pv 4) pe_int (nomark _)) (pw_and1 (pt_cmp (pc_dnotin (by exact hu1 hr) (pv 7) (ge_meth0 (pv 1) T.cl_Year T.m_Year_told (ok_Year_told T) hgu (hr.mono (by decide)) T.b_Year_told .nil (fun _ => pass_takes (takes_of rfl rfl rfl rfl)))))))) (pss_cons (ps_expr (ge_methN (pv 1) T.cl_Year T.m_Year_tell (ok_Year_tell T) hgu (hr.mono (by decide)) T.kb_Year_tell_3 (fun _ => pass_takes (takes_of rfl rfl rfl rfl)) (pa_cons (pv 7) (pa_cons (pv 5) pa_nil)) pk_nil))
 (pss_one (ps_expr (ge_meth (pv 1) T.cl_Year T.m_Year_back (ok_Year_back T) hgu (hr.mono (by decide)) T.b_Year_back .nil (fun _ => pass_takes (takes_of rfl rfl rfl rfl)) (pa_cons (pv 7) pa_nil))))) pss_nil)))))), ?_⟩)
  · obtain ⟨b, y, nl, td, pl, ns, kvs, m, xs, ts, R, D, x, y', z, n, rfl, _⟩ := h
    rfl
  · obtain ⟨b, y, nl, td, pl, ns, kvs, m, xs, ts, R, D, x, y', z, n, rfl, hI, bo, hn, iy, told, epl, pr, xl, hts, go⟩ := h
    have n1 : 1 ≤ ns.length := iy.2.2.1
    have n52 : ns.length ≤ 52 := iy.2.2.2.1
    obtain ⟨⟨dx, ea⟩, _⟩ := id iy
    have tl := pr.length
    wtm_at "go"
    wtm_at "sm"
    rename_i way x1 y1 z1 H1 hI1 bo1 way0 way1
    refine lweek_use hI1 bo1 (by omega) (fun q0 p0 x2 y2 z2 n2 H2 D2 hI2 ex2 bo2 hn2 eq0 wq0 => ?_)
    obtain ⟨w0, w1, c0, c1⟩ := id wq0
    have ea2 := ex2 _ _ ea
    have epl2 := ex2 _ _ epl
    wtm_at "sm"
    refine if_dec (fun hw0 => ?_) (fun hw0 => ?_)
    · wtm_at "sm"
      rename_i pe H3 D3 hI3 x3 e3
      have ea3 := x3 _ _ ea2
      have epl3 := x3 _ _ epl2
      by_cases hx : xs = []
      · rw [hx] at epl3
        refine .same (hI3.dat epl3) (hI3.dat e3) all_n ?_
        wtm_at "sm"
        exact go _ _ _ _ _ _ _ _ (by assumption) (ex2.trans x3) (by assumption) (by omega) (told.mono (ex2.trans x3)) (fun j _ => rfl)
      · refine .len (hI3.dat epl3) (hI3.dat e3) (by simpa using hx) ?_
        have hpos : 0 < xs.length := List.length_pos_iff.mpr hx
        wtm_at "sm"
        rename_i at_ x4 y4 z4 H4 hI4 bo4 at0 at1
        obtain ⟨v, hv⟩ : ∃ v, xs[at_.toNat]? = some v := ⟨_, List.getElem?_eq_getElem (by omega)⟩
        obtain ⟨t, ht, pq, rfl, ept⟩ := paired_get pr hv
        have ept3 := (ex2.trans x3) _ _ ept
        obtain ⟨t1, t2, tw⟩ := hts t (List.mem_of_getElem? ht)
        refine RIx.l (hI4.dat epl3) ((atI_ofI at0).trans hv) ?_
        wtm_at "sm"
        refine tell_use (k := t.1) (w := p0.1) (c := p0.2) (R := (b, bx x4 y4 z4) :: R) hI4.swap (iy.mono (ex2.trans x3)) (told.mono (ex2.trans x3)) t1 t2 wq0 (fun kvs' H5 D5 hI5 x5 t5 => ?_)
        wtm_at "sm"
        refine go _ _ _ _ _ _ _ _ (by first | assumption | exact HI.swap (by assumption)) ((ex2.trans x3).trans x5) (by assumption) (by omega) t5 (fun j hj => ?_)
        unfold putM
        rw [if_neg (hj t (List.mem_of_getElem? ht))]
    · wtm_at "sm"
      rename_i wk x4 y4 z4 H4 hI4 bo4 wk0 wk1
      refine if_dec (fun hw1 => ?_) (fun hw1 => ?_)
      · wtm_at "sm"
        refine ytold_use hI4 (iy.mono ex2) (List.mem_cons_of_mem _ (List.mem_cons_self ..)) (told.mono ex2) (fun p3 ks kvs2 H5 D5 hI5 x5 e5 t5 ek5 hp5 hn5 hin5 => ?_)
        have ea5 := x5 _ _ ea2
        have x25 := ex2.trans x5
        wtm_at "sm"
        cases em : m (1 + wk) with
        | none =>
          rw [t5.no _ em]
          refine iteT ?_
          wtm_at "sm"
          refine tellN_use (k := 1 + wk) (w := p0.1) (R := (b, bx x4 y4 z4) :: R) hI5.swap (iy.mono x25) (told.mono x25) (by omega) (by omega) w0 w1 (fun kvs' H6 D6 hI6 x6 t6 => ?_)
          have ea6 := x6 _ _ ea5
          wtm_at "sm"
          refine back_use (k := 1 + wk) hI6 (iy.mono (x25.trans x6)) t6 (by omega) (by omega) (by unfold putM; rw [if_pos rfl]; rfl) (fun kvs2 H7 hI7 t7 => ?_)
          rw [putM_back em] at t7
          wtm_at "sm"
          exact go _ _ _ _ _ _ _ _ hI7.swap (x25.trans x6) bo4 (by omega) t7 (fun j _ => rfl)
        | some q =>
          obtain ⟨v, ev, _⟩ := t5.yes _ _ em
          rw [ev]
          refine iteF ?_
          wtm_at "sm"
          exact go _ _ _ _ _ _ _ _ hI5 x25 bo4 (by omega) (told.mono x25) (fun j _ => rfl)
      · wtm_at "sm"
        exact go _ _ _ _ _ _ _ _ (by assumption) ex2 (by assumption) (by omega) (told.mono ex2) (fun j _ => rfl)
/-- copied: another year, with a dict of its own -/
def spCopied (K : PySem.W.Frag) : Sp := fun vs H Q _ => ∃ (a nl td : Addr) (ns : List (Int × Int)) (kvs : List (Key × V)) (m : Int → Option (Int × Int)) (R : Cells) (D : Hp), vs = [.ref a] ∧ HI H R D ∧ IsYr K D a nl td ns ∧ ((td, HO.dK kvs) : Addr × HO) ∈ R ∧ Told D kvs m ns.length ∧
  ∀ (b nl2 td2 : Addr) H' D', HI H' ((td2, .dK kvs) :: R) D' → Ex D D' → IsYr K D' b nl2 td2 ns → Q (.ref b) H'
set_option maxHeartbeats 1000000 in
theorem ok_Year_copied {P : Program} {w : World} {K : PySem.W.Frag} {mg : Str → Option Value} {base : Heap} (T : Tx K mg) : FnG P w K mg base 6 (a_Year_copied K) ["self"] (spCopied K) := by
  refine T.f_Year_copied.ok sc_Year_copied (fun vs H Q E h => ?_) (fun cdv A outer s H vs Q E hgu hr h => ⟨_, (pss_cons (ps_set (i := 1) sc_Year_copied.nd rfl (Or.inl rfl) (ge_makeN T.mk_Year (ok_Year_init T) hgu (hr.mono (by decide)) rfl T.g_Year T.kb_Year_init_2 (fun _ => pass_takes (takes_of rfl rfl rfl rfl)) (pa_cons (pe_fld (pv 0) rfl) pa_nil) pk_nil))
 (pss_cons (ps_fld (pv 1) (pe_callTy (call_dictOM rfl) (by rfl) T.n_dict boot_dict (pa_cons (pe_fld (pv 0) rfl) pa_nil)) rfl)
 (pss_one (ps_ret (pv 1))))), ?_⟩)
  · obtain ⟨a, nl, td, ns, kvs, m, R, D, rfl, _⟩ := h
    rfl
  · obtain ⟨a, nl, td, ns, kvs, m, R, D, rfl, hI, iy, mm, told, go⟩ := h
    have pc := T.pc_Year
    obtain ⟨⟨dx, ea⟩, ⟨xs, en, pl⟩, l0, l1, wo⟩ := id iy
    have et := hI.get mm
    wtm_at "go"
    wtm_at "sh"
    rename_i b db H1 hI1
    refine ⟨b, db, nl, xs, ns, (db, .own b) :: R, D, rfl, hI1, .l en, pl, l0, l1, wo, fun nl2 td0 H2 D2 hI2 x2 en2 => ⟨rfl, ?_⟩⟩
    have hI3 : HI H2 ((b, .ins (He.ga K "Year") db (yrF nl2 td0)) :: (db, .own b) :: (td0, .dK []) :: R) D2 := hI2.dn2
    have ea2 := x2 _ _ ea
    have mm3 : ((td, HO.dK kvs) : Addr × HO) ∈ (b, HO.ins (He.ga K "Year") db (yrF nl2 td0)) :: (db, .own b) :: (td0, .dK []) :: R := List.mem_cons_of_mem _ (List.mem_cons_of_mem _ (List.mem_cons_of_mem _ mm))
    have et3 := hI3.get mm3
    wtm_at "sh"
    refine .d et3 ?_
    refine al_M hI3 (fun td2 H4 hI4 => ?_)
    have hI5 := hI4.swap
    wtm_at "sh"
    rename_i H6 hI6
    have ep : putF "kept_told" (.ref td2) (yrF nl2 td0) = yrF nl2 td2 := rfl
    rw [ep] at hI6
    have hI7 : HI H6 ((b, .ins (He.ga K "Year") db (yrF nl2 td2)) :: (db, .own b) :: (td2, .dK kvs) :: (td0, .dK []) :: R) D2 := hI6.perm (List.Perm.cons _ (List.Perm.swap ..))
    obtain ⟨D3, hI8, x3, e3⟩ := hI7.freezeI
    exact go b nl2 td2 _ _ hI8.swap.drop (x2.trans x3) ⟨⟨db, e3⟩, ⟨xs, x3 _ _ en2, pl.mono (x2.trans x3)⟩, l0, l1, wo⟩
theorem copied_use {K : PySem.W.Frag} {a nl td : Addr} {ns : List (Int × Int)} {kvs : List (Key × V)} {m : Int → Option (Int × Int)} {R : Cells} {D H : Hp} {Q : VK} {E : XK} (hI : HI H R D) (iy : IsYr K D a nl td ns) (mm : ((td, HO.dK kvs) : Addr × HO) ∈ R) (t : Told D kvs m ns.length)
    (q : ∀ (b nl2 td2 : Addr) H' D', HI H' ((td2, .dK kvs) :: R) D' → Ex D D' → IsYr K D' b nl2 td2 ns → Q (.ref b) H') : spCopied K [.ref a] H Q E := ⟨a, nl, td, ns, kvs, m, R, D, rfl, hI, iy, mm, t, q⟩
section
variable {K : PySem.W.Frag} {mg : Str → Option Value} {H D : Hp} {R : Cells} {a b : Addr} {f g : Int → Int × Int} {n k : Int} {y : V} {Q : VK}
theorem eqY_year (T : Tx K mg) (hI : HI H R D) (i1 : YrAt K R D a f n) (i2 : YrAt K R D b g k) (q : ∀ H' D', HI H' R D' → Ex D D' → Q (.bl (decide (wksOf f n.toNat = wksOf g k.toNat))) H') : REqO K (He.ga K "Year") (spEqY K) false (.ref a) (.ref b) H Q := by
  obtain ⟨nl, td, ns, kvs, m, ⟨⟨dx, ea⟩, _⟩, _⟩ := id i1
  exact REqO.o (hI.dat ea) ((i2.tyY T.in_Year).mono hI.sub) T.nf_Year_Year ⟨a, f, n, .ref b, R, D, rfl, hI, i1, .inr ⟨b, g, k, rfl, i2, fun H' D' h x => ⟨_, rfl, q _ _ h x⟩⟩⟩
theorem neY_year (T : Tx K mg) (hI : HI H R D) (i1 : YrAt K R D a f n) (i2 : YrAt K R D b g k) (q : ∀ H' D', HI H' R D' → Ex D D' → Q (.bl (!decide (wksOf f n.toNat = wksOf g k.toNat))) H') : REqO K (He.ga K "Year") (spEqY K) true (.ref a) (.ref b) H Q := by
  obtain ⟨nl, td, ns, kvs, m, ⟨⟨dx, ea⟩, _⟩, _⟩ := id i1
  exact REqO.o (hI.dat ea) ((i2.tyY T.in_Year).mono hI.sub) T.nf_Year_Year ⟨a, f, n, .ref b, R, D, rfl, hI, i1, .inr ⟨b, g, k, rfl, i2, fun H' D' h x => ⟨_, rfl, q _ _ h x⟩⟩⟩
end
theorem stand_none {ns : List (Int × Int)} : wksOf (stand ns fun _ => none) ns.length = ns := by
  refine List.ext_getElem? fun i => ?_
  unfold wksOf
  rw [List.getElem?_map]
  by_cases h : i < ns.length
  · rw [List.getElem?_range h, List.getElem?_eq_getElem h]
    show some (ns.getD ((i : Int) + 1 - 1).toNat (0, 0)) = _
    rw [show ((i : Int) + 1 - 1).toNat = i by omega, List.getD_eq_getElem?_getD, List.getElem?_eq_getElem h]
    rfl
  · rw [List.getElem?_eq_none (by rw [List.length_range]; omega), List.getElem?_eq_none (by omega)]
    rfl
theorem lbetween_use {K : PySem.W.Frag} {b y nl td pl : Addr} {ns : List (Int × Int)} {kvs : List (Key × V)} {m : Int → Option (Int × Int)} {xs : List V} {ts : List Tri} {R : Cells} {D H : Hp} {x y' z : Int} {n : Nat} {Q : VK} {E : XK} (hI : HI H ((b, bx x y' z) :: (td, .dK kvs) :: R) D) (bo : BoxOk n x y' z) (hn : n + 200 < 1000000) (iy : IsYr K D y nl td ns) (told : Told D kvs m ns.length)
  (epl : D pl = some (.lst xs)) (pr : Paired (TriAt D) xs ts) (xl : xs.length ≤ 100) (hts : ∀ t ∈ ts, TriOk ns.length t)
  (go : ∀ x1 y1 z1 n1 kvs' m' H' D', HI H' ((b, bx x1 y1 z1) :: (td, .dK kvs') :: R) D' → Ex D D' → BoxOk n1 x1 y1 z1 → n1 ≤ n + 20 → Told D' kvs' m' ns.length → (∀ j, (∀ t ∈ ts, j ≠ t.1) → m' j = m j) → Q .non H') : spLBetween K [.ref b, .ref y, .int ns.length, .ref pl] H Q E :=
  ⟨b, y, nl, td, pl, ns, kvs, m, xs, ts, R, D, x, y', z, n, rfl, hI, bo, hn, iy, told, epl, pr, xl, hts, go⟩
theorem lall_use {K : PySem.W.Frag} {y nl td : Addr} {ns : List (Int × Int)} {kvs : List (Key × V)} {m : Int → Option (Int × Int)} {R : Cells} {D H : Hp} {Q : VK} {E : XK} (hI : HI H R D) (iy : IsYr K D y nl td ns) (mm : ((td, HO.dK kvs) : Addr × HO) ∈ R) (t : Told D kvs m ns.length)
  (go : ∀ H' D', HI H' R D' → Ex D D' → Q (.str (allD ns m).shown) H') : spLAll K [.ref y, .int ns.length] H Q E := ⟨y, nl, td, ns, kvs, m, R, D, rfl, hI, iy, mm, t, go⟩
def mOf (ts : List Tri) : Int → Option (Int × Int) := fun j => (ts.find? fun t => decide (t.1 = j)).map (·.2)
theorem mOf_no {ts : List Tri} {j : Int} (h : ∀ t ∈ ts, j ≠ t.1) : mOf ts j = none := by
  unfold mOf
  rw [List.find?_eq_none.mpr fun t ht => by simpa using fun e => h t ht e.symm]
  rfl
theorem mOf_yes {ts : List Tri} (nd : (ts.map (·.1)).Nodup) {t : Tri} (h : t ∈ ts) : mOf ts t.1 = some t.2 := by
  induction ts with
  | nil => cases h
  | cons u r ih =>
    rw [List.map_cons, List.nodup_cons] at nd
    unfold mOf
    rw [List.find?_cons]
    by_cases e : u.1 = t.1
    · rw [decide_eq_true e]
      rcases List.mem_cons.mp h with rfl | h
      · rfl
      · exact absurd (List.mem_map.mpr ⟨t, h, e.symm⟩) nd.1
    · rw [decide_eq_false e]
      rcases List.mem_cons.mp h with rfl | h
      · exact absurd rfl e
      · exact ih nd.2 h
theorem mOf_snoc {ts : List Tri} {t : Tri} (nd : ((ts ++ [t]).map (·.1)).Nodup) : mOf (ts ++ [t]) = putM (mOf ts) t.1 (some t.2) := by
  funext j
  unfold putM
  by_cases e : j = t.1
  · rw [if_pos e, e]
    exact mOf_yes nd (List.mem_append_right _ (List.mem_singleton.mpr rfl))
  · rw [if_neg e]
    unfold mOf
    rw [List.find?_append]
    have : [t].find? (fun t => decide (t.1 = j)) = none := by simpa using fun h => e h.symm
    rw [this, Option.or_none]
theorem mOf_perm {ts us : List Tri} (p : ts.Perm us) (nd : (ts.map (·.1)).Nodup) : mOf ts = mOf us := by
  funext j
  by_cases h : ∃ t ∈ ts, j = t.1
  · obtain ⟨t, ht, rfl⟩ := h
    rw [mOf_yes nd ht, mOf_yes ((p.map (·.1)).nodup_iff.mp nd) (p.mem_iff.mp ht)]
  · have h1 : ∀ t ∈ ts, j ≠ t.1 := fun t ht e => h ⟨t, ht, e⟩
    rw [mOf_no h1, mOf_no fun t ht => h1 t (p.mem_iff.mpr ht)]
theorem mOf_back {t : Tri} {r : List Tri} (h : t.1 ∉ r.map (·.1)) : putM (mOf (t :: r)) t.1 none = mOf r := by
  funext j
  unfold putM
  by_cases e : j = t.1
  · rw [if_pos e, e, mOf_no fun u hu z => h (by rw [z]; exact List.mem_map.mpr ⟨u, hu, rfl⟩)]
  · rw [if_neg e]
    unfold mOf
    rw [List.find?_cons, decide_eq_false fun z => e z.symm]
/-- a list that stands in another order: so do the things that it stands for -/
theorem paired_perm {α β : Type} {r : α → β → Prop} {xs ys : List α} (p : ys.Perm xs) : ∀ {ts : List β}, Paired r xs ts → ∃ us, us.Perm ts ∧ Paired r ys us := by
  induction p with
  | nil =>
    intro ts h
    cases h
    exact ⟨[], .nil, .nil⟩
  | cons x _ ih =>
    intro ts h
    cases h with
    | cons a l =>
      obtain ⟨us, p, q⟩ := ih l
      exact ⟨_ :: us, p.cons _, .cons a q⟩
  | swap x y l =>
    intro ts h
    cases h with
    | cons a l => cases l with
      | cons b l => exact ⟨_, List.Perm.swap _ _ _, .cons b (.cons a l)⟩
  | trans p q ih1 ih2 =>
    intro ts h
    obtain ⟨us, p2, q2⟩ := ih2 h
    obtain ⟨vs, p1, q1⟩ := ih1 q2
    exact ⟨vs, p1.trans p2, q1⟩
theorem paired_take {α β : Type} {r : α → β → Prop} : ∀ {xs : List α} {ts : List β} (k : Nat), Paired r xs ts → Paired r (xs.take k) (ts.take k)
  | _, _, 0, _ => .nil
  | _, _, _ + 1, .nil => .nil
  | _, _, k + 1, .cons a l => .cons a (paired_take k l)
theorem paired_drop {α β : Type} {r : α → β → Prop} : ∀ {xs : List α} {ts : List β} (k : Nat), Paired r xs ts → Paired r (xs.drop k) (ts.drop k)
  | _, _, 0, h => h
  | _, _, _ + 1, .nil => .nil
  | _, _, k + 1, .cons _ l => paired_drop k l
theorem cutV_to {xs : List V} {k : Nat} : cutV xs none (some (k : Int)) = xs.take k := by
  unfold cutV
  simp only [sIx_le']
  show (xs.drop 0).take (min k xs.length - 0) = _
  rw [List.drop_zero, Nat.sub_zero]
  by_cases h : k ≤ xs.length
  · rw [Nat.min_eq_left h]
  · rw [Nat.min_eq_right (by omega), List.take_of_length_le (Nat.le_refl _), List.take_of_length_le (by omega)]
theorem rg_paired {n : Nat} : Paired (fun (v : V) (i : Int) => v = .int i) (rgV 1 ((n : Int) + 1)) ((List.range n).map fun (i : Nat) => 1 + (i : Int)) := by
  unfold rgV
  rw [show ((n : Int) + 1 - 1).toNat = n by omega]
  generalize List.range n = l
  induction l with
  | nil => exact .nil
  | cons a l ih => exact .cons rfl ih
theorem ts_len {ts : List Tri} {zs : List Int} (h : ts.map (·.1) = zs) : ts.length = zs.length := by
  rw [← h, List.length_map]
def spLRightT (K : PySem.W.Frag) : Sp := fun vs H Q _ => ∃ (b : Addr) (R : Cells) (D : Hp) (x y z : Int) (n : Nat), vs = [.ref b] ∧ HI H ((b, bx x y z) :: R) D ∧ BoxOk n x y z ∧ n + 5000 < 1000000 ∧ ∀ H' D', HI H' R D' → Ex D D' → Q (.bl true) H'
set_option maxHeartbeats 8000000 in
theorem ok_l_right {P : Program} {w : World} {K : PySem.W.Frag} {mg : Str → Option Value} {base : Heap} (T : Tx K mg) : FnG P w K mg base 7 (a_l_right K) ["box"] (spLRightT K) := by
  refine T.f_l_right.ok sc_l_right (fun vs H Q E h => ?_) (fun cdv A outer s H vs Q E hgu hr h => ⟨_, (pss_cons (ps_set (i := 1) sc_l_right.nd rfl (Or.inl rfl) (ge_call (ok_l_weeks T) hgu (hr.mono (by decide)) rfl T.g_l_weeks T.k_l_weeks T.b_l_weeks .nil (fun _ => pass_takes (takes_of rfl rfl rfl rfl)) (pa_cons (pv 0) pa_nil)))
 (pss_cons (ps_set (i := 2) sc_l_right.nd rfl (Or.inr rfl) (pe_callB (call_lenU) (by rfl) T.n_len boot_len (pa_cons (pv 1) pa_nil)))
 (pss_cons (ps_setLc (i := 3) (own := [("week", 9)]) rfl sc_l_right.nd rfl rfl (sw_true rfl rfl rfl (by decide +kernel)) (pi_list (pe_slice sl_U (ge_call (ok_l_turned T) hgu (hr.mono (by decide)) rfl T.g_l_turned T.k_l_turned T.b_l_turned .nil (fun _ => pass_takes (takes_of rfl rfl rfl rfl)) (pa_cons (pv 0) (pa_cons (pe_listRg rfl (by rfl) T.n_list (prg_2 (by rfl) T.n_range pe_int (pe_op op_addU (pv 2) pe_int))) pa_nil))) po_none (po_some (ge_call (ok_l_take T) hgu (hr.mono (by decide)) rfl T.g_l_take T.k_l_take T.b_l_take .nil (fun _ => pass_takes (takes_of rfl rfl rfl rfl)) (pa_cons (pv 0) (pa_cons pe_int pa_nil)))))) (blkOk_by (own := [("week", 9)]) (N := ["box", "normal", "many", "rows", "one", "other", "bare", "at", "turned", "week", "warmth", "cold", "copy", "still", "kept", "k", "row", "due", "told", "year"]) (sc := defScope s_l_right) (by decide +kernel)) (fun _ _ _ _ _ => (pg_name (i := 9) sc_l_right.nd rfl (by first | exact Or.inl rfl | exact Or.inr rfl))) (fun _ _ _ _ _ => pts_nil) (fun _ _ _ _ _ => (pe_op op_addU (pe_tup (pa_cons (pv 9) pa_nil)) (ge_call (ok_l_week T) hgu (hr.mono (by decide)) rfl T.g_l_week T.k_l_week T.b_l_week .nil (fun _ => pass_none) (pa_cons (pv 0) pa_nil)))))
 (pss_cons (ps_par3 (i := 4) (j := 5) (l := 6) (by rfl) sc_l_right.nd rfl rfl rfl (by decide) (by decide) (by decide) rfl rfl rfl (pa_cons (ge_makeN T.mk_Year (ok_Year_init T) hgu (hr.mono (by decide)) rfl T.g_Year T.kb_Year_init_2 (fun _ => pass_takes (takes_of rfl rfl rfl rfl)) (pa_cons (pv 1) pa_nil) pk_nil) (pa_cons (ge_makeN T.mk_Year (ok_Year_init T) hgu (hr.mono (by decide)) rfl T.g_Year T.kb_Year_init_2 (fun _ => pass_takes (takes_of rfl rfl rfl rfl)) (pa_cons (pe_callTy call_tupU (by rfl) T.n_tuple boot_tuple (pa_cons (pv 1) pa_nil)) pa_nil) pk_nil) (pa_cons (ge_makeN T.mk_Year (ok_Year_init T) hgu (hr.mono (by decide)) rfl T.g_Year T.kb_Year_init_2 (fun _ => pass_takes (takes_of rfl rfl rfl rfl)) (pa_cons (pv 1) pa_nil) pk_nil) pa_nil))) (by rfl))
 (pss_cons (ps_set (i := 7) sc_l_right.nd rfl (Or.inl rfl) (ge_call (ok_l_take T) hgu (hr.mono (by decide)) rfl T.g_l_take T.k_l_take T.b_l_take .nil (fun _ => pass_takes (takes_of rfl rfl rfl rfl)) (pa_cons (pv 0) (pa_cons (pe_op op_addU (pe_callB (call_lenU) (by rfl) T.n_len boot_len (pa_cons (pv 3) pa_nil)) pe_int) pa_nil))))
 (pss_cons (ps_set (i := 8) sc_l_right.nd rfl (Or.inl rfl) (ge_call (ok_l_turned T) hgu (hr.mono (by decide)) rfl T.g_l_turned T.k_l_turned T.b_l_turned .nil (fun _ => pass_takes (takes_of rfl rfl rfl rfl)) (pa_cons (pv 0) (pa_cons (pv 3) pa_nil))))
 (pss_cons (ps_for (passes_of rfl) rfl (pi_list (pe_slice sl_U (pv 3) po_none (po_some (pv 7)))) (pg_tup (by rfl) (pgs_cons (pg_name (i := 9) sc_l_right.nd rfl (Or.inl rfl)) (pgs_cons (pg_name (i := 10) sc_l_right.nd rfl (Or.inl rfl)) (pgs_cons (pg_name (i := 11) sc_l_right.nd rfl (Or.inl rfl)) pgs_nil)))) (pss_one (ps_expr (ge_methN (pv 4) T.cl_Year T.m_Year_tell (ok_Year_tell T) hgu (hr.mono (by decide)) T.kb_Year_tell_4 (fun _ => pass_takes (takes_of rfl rfl rfl rfl)) (pa_cons (pv 9) (pa_cons (pv 10) (pa_cons (pv 11) pa_nil))) pk_nil))))
 (pss_cons (ps_par (i := 12) (j := 13) (by rfl) sc_l_right.nd rfl rfl (by decide) rfl rfl (pa_cons (ge_meth0 (pv 4) T.cl_Year T.m_Year_copied (ok_Year_copied T) hgu (hr.mono (by decide)) T.b_Year_copied .nil (fun _ => pass_takes (takes_of rfl rfl rfl rfl))) (pa_cons (ge_meth0 (pv 4) T.cl_Year T.m_Year_copied (ok_Year_copied T) hgu (hr.mono (by decide)) T.b_Year_copied .nil (fun _ => pass_takes (takes_of rfl rfl rfl rfl))) pa_nil)) (by rfl))
 (pss_cons (ps_set (i := 14) sc_l_right.nd rfl (Or.inl rfl) (ge_call (ok_l_all T) hgu (hr.mono (by decide)) rfl T.g_l_all T.k_l_all T.b_l_all .nil (fun _ => pass_takes (takes_of rfl rfl rfl rfl)) (pa_cons (pv 13) (pa_cons (pv 2) pa_nil))))
 (pss_cons (ps_for (passes_of rfl) rfl (pi_enum (by rfl) T.n_enumerate (pa_cons (pv 8) pa_nil)) (pg_tup (by rfl) (pgs_cons (pg_name (i := 15) sc_l_right.nd rfl (Or.inl rfl)) (pgs_cons (pg_name (i := 16) sc_l_right.nd rfl (Or.inl rfl)) pgs_nil))) (pss_cons (ps_expr (ge_call (ok_l_between T) hgu (hr.mono (by decide)) rfl T.g_l_between T.k_l_between T.b_l_between .nil (fun _ => pass_takes (takes_of rfl rfl rfl rfl)) (pa_cons (pv 0) (pa_cons (pv 5) (pa_cons (pv 2) (pa_cons (pe_slice sl_U (pv 8) (po_some (pv 15)) po_none) pa_nil))))))
 (pss_cons (ps_expr (ge_methN (pv 5) T.cl_Year T.m_Year_tell (ok_Year_tell T) hgu (hr.mono (by decide)) T.kb_Year_tell_4 (fun _ => pass_takes (takes_of rfl rfl rfl rfl)) (pa_cons (pe_ix ix_U (pv 16) pe_int (fun _ _ => rfl)) (pa_cons (pe_ix ix_U (pv 16) pe_int (fun _ _ => rfl)) (pa_cons (pe_ix ix_U (pv 16) pe_int (fun _ _ => rfl)) pa_nil))) pk_nil))
 (pss_one (ps_if (pt_cmpR op_lt (pv 15) (pe_op op_sub (pe_callB (call_lenU) (by rfl) T.n_len boot_len (pa_cons (pv 3) pa_nil)) (pv 7)) (nomark _)) (pss_one (ps_expr (ge_methN (pv 4) T.cl_Year T.m_Year_tell (ok_Year_tell T) hgu (hr.mono (by decide)) T.kb_Year_tell_4 (fun _ => pass_takes (takes_of rfl rfl rfl rfl)) (pa_cons (pe_ix ix_U (pe_ix ix_U (pv 3) (pe_op op_addU (pv 7) (pv 15)) (fun _ _ => rfl)) pe_int (fun _ _ => rfl)) (pa_cons (pe_ix ix_U (pe_ix ix_U (pv 3) (pe_op op_addU (pv 7) (pv 15)) (fun _ _ => rfl)) pe_int (fun _ _ => rfl)) (pa_cons (pe_ix ix_U (pe_ix ix_U (pv 3) (pe_op op_addU (pv 7) (pv 15)) (fun _ _ => rfl)) pe_int (fun _ _ => rfl)) pa_nil))) pk_nil))) pss_nil)))))
 (pss_cons (ps_for (passes_of rfl) rfl (pi_list (ge_call (ok_l_turned T) hgu (hr.mono (by decide)) rfl T.g_l_turned T.k_l_turned T.b_l_turned .nil (fun _ => pass_takes (takes_of rfl rfl rfl rfl)) (pa_cons (pv 0) (pa_cons (pe_slice sl_U (pv 3) (po_some (pv 7)) po_none) pa_nil)))) (pg_tup (by rfl) (pgs_cons (pg_name (i := 9) sc_l_right.nd rfl (Or.inl rfl)) (pgs_cons (pg_name (i := 10) sc_l_right.nd rfl (Or.inl rfl)) (pgs_cons (pg_name (i := 11) sc_l_right.nd rfl (Or.inl rfl)) pgs_nil)))) (pss_one (ps_expr (ge_methN (pv 12) T.cl_Year T.m_Year_tell (ok_Year_tell T) hgu (hr.mono (by decide)) T.kb_Year_tell_4 (fun _ => pass_takes (takes_of rfl rfl rfl rfl)) (pa_cons (pv 9) (pa_cons (pv 10) (pa_cons (pv 11) pa_nil))) pk_nil))))
 (pss_cons (ps_set (i := 17) sc_l_right.nd rfl (Or.inl rfl) (ge_call (ok_l_all T) hgu (hr.mono (by decide)) rfl T.g_l_all T.k_l_all T.b_l_all .nil (fun _ => pass_takes (takes_of rfl rfl rfl rfl)) (pa_cons (pv 4) (pa_cons (pv 2) pa_nil))))
 (pss_cons (ps_if (PW.pt (pw_or (pt_cmpR (op_neI hr.units) (pe_lc (own := [("year", 19)]) rfl sc_l_right.nd (pi_list (pe_lst (pa_cons (pv 5) (pa_cons (pv 12) pa_nil)))) (blkOk_by (own := [("year", 19)]) (N := ["box", "normal", "many", "rows", "one", "other", "bare", "at", "turned", "week", "warmth", "cold", "copy", "still", "kept", "k", "row", "due", "told", "year"]) (sc := defScope s_l_right) (by decide +kernel)) (fun _ _ _ _ _ => (pg_name (i := 19) sc_l_right.nd rfl (by first | exact Or.inl rfl | exact Or.inr rfl))) (fun _ _ _ _ _ => pts_nil) (fun _ _ _ _ _ => (ge_call (ok_l_all T) hgu (hr.mono (by decide)) rfl T.g_l_all T.k_l_all T.b_l_all .nil (fun _ => pass_none) (pa_cons (pv 19) (pa_cons (pv 2) pa_nil))))) (pe_lst (pa_cons (pv 17) (pa_cons (pv 17) pa_nil))) (nomark _)) (pw_or (pt_not (pt_cmpR (op_eqO T.eq_Year (ok_Year_eq T) T.b_Year_eq hgu (hr.mono (by decide))) (pv 4) (pv 5) (nomark _))) (pw_or1 (pt_cmpR (op_neO T.eq_Year (ok_Year_eq T) T.b_Year_eq hgu (hr.mono (by decide))) (pv 4) (pv 12) (nomark _)))))) (pss_one (ps_ret pe_bl)) pss_nil)
 (pss_cons (ps_set (i := 18) sc_l_right.nd rfl (Or.inl rfl) (pe_callTy (call_dictO rfl) (by rfl) T.n_dict boot_dict (pa_cons (pe_lc (own := [("row", 16)]) rfl sc_l_right.nd (pi_list (pe_callB (call_sortD hr T.sys) (by rfl) T.n_sorted boot_sorted (pa_cons (pv 3) pa_nil))) (blkOk_by (own := [("row", 16)]) (N := ["box", "normal", "many", "rows", "one", "other", "bare", "at", "turned", "week", "warmth", "cold", "copy", "still", "kept", "k", "row", "due", "told", "year"]) (sc := defScope s_l_right) (by decide +kernel)) (fun _ _ _ _ _ => (pg_name (i := 16) sc_l_right.nd rfl (by first | exact Or.inl rfl | exact Or.inr rfl))) (fun _ _ _ _ _ => pts_nil) (fun _ _ _ _ _ => (pe_tup (pa_cons (pe_ix ix_U (pv 16) pe_int (fun _ _ => rfl)) (pa_cons (pe_slice sl_Tu (pv 16) (po_some pe_int) po_none) pa_nil))))) pa_nil)))
 (pss_cons (ps_if (PW.pt (pw_or (pt_cmpR (op_neO T.eq_Year (ok_Year_eq T) T.b_Year_eq hgu (hr.mono (by decide))) (pe_callB (call_repr hgu hr T.sys) (by rfl) T.n_repr boot_repr (pa_cons (ge_meth0 (pv 4) T.cl_Year T.m_Year_told (ok_Year_told T) hgu (hr.mono (by decide)) T.b_Year_told .nil (fun _ => pass_takes (takes_of rfl rfl rfl rfl))) pa_nil)) (pe_callB (call_repr hgu hr T.sys) (by rfl) T.n_repr boot_repr (pa_cons (pv 18) pa_nil)) (nomark _)) (pw_or1 (pt_cmpR (op_neO T.eq_Year (ok_Year_eq T) T.b_Year_eq hgu (hr.mono (by decide))) (ge_call (ok_l_all T) hgu (hr.mono (by decide)) rfl T.g_l_all T.k_l_all T.b_l_all .nil (fun _ => pass_takes (takes_of rfl rfl rfl rfl)) (pa_cons (pv 13) (pa_cons (pv 2) pa_nil))) (pv 14) (nomark _))))) (pss_one (ps_ret pe_bl)) pss_nil)
 (pss_cons (ps_for (passes_of rfl) rfl (pi_list (pv 8)) (pg_tup (by rfl) (pgs_cons (pg_name (i := 9) sc_l_right.nd rfl (Or.inl rfl)) (pgs_cons (pg_name (i := 10) sc_l_right.nd rfl (Or.inl rfl)) (pgs_cons (pg_name (i := 11) sc_l_right.nd rfl (Or.inl rfl)) pgs_nil)))) (pss_one (ps_expr (ge_meth (pv 4) T.cl_Year T.m_Year_back (ok_Year_back T) hgu (hr.mono (by decide)) T.b_Year_back .nil (fun _ => pass_takes (takes_of rfl rfl rfl rfl)) (pa_cons (pv 9) pa_nil)))))
 (pss_cons (ps_if (PW.pt (pw_or (pt_cmpR (op_neO T.eq_Year (ok_Year_eq T) T.b_Year_eq hgu (hr.mono (by decide))) (ge_call (ok_l_all T) hgu (hr.mono (by decide)) rfl T.g_l_all T.k_l_all T.b_l_all .nil (fun _ => pass_takes (takes_of rfl rfl rfl rfl)) (pa_cons (pv 4) (pa_cons (pv 2) pa_nil))) (ge_call (ok_l_all T) hgu (hr.mono (by decide)) rfl T.g_l_all T.k_l_all T.b_l_all .nil (fun _ => pass_takes (takes_of rfl rfl rfl rfl)) (pa_cons (pv 6) (pa_cons (pv 2) pa_nil))) (nomark _)) (pw_or (pt_not (pt_cmpR (op_eqO T.eq_Year (ok_Year_eq T) T.b_Year_eq hgu (hr.mono (by decide))) (pv 4) (pv 6) (nomark _))) (pw_or1 (pt_cmpR (op_neO T.eq_Year (ok_Year_eq T) T.b_Year_eq hgu (hr.mono (by decide))) (ge_call (ok_l_all T) hgu (hr.mono (by decide)) rfl T.g_l_all T.k_l_all T.b_l_all .nil (fun _ => pass_takes (takes_of rfl rfl rfl rfl)) (pa_cons (pv 5) (pa_cons (pv 2) pa_nil))) (pv 17) (nomark _)))))) (pss_one (ps_ret pe_bl)) pss_nil)
 (pss_one (ps_ret (pe_and (pe_cmpR (op_eqO T.eq_Year (ok_Year_eq T) T.b_Year_eq hgu (hr.mono (by decide))) (pe_callB (call_repr hgu hr T.sys) (by rfl) T.n_repr boot_repr (pa_cons (ge_meth0 (pv 6) T.cl_Year T.m_Year_weeks (ok_Year_weeks T) hgu (hr.mono (by decide)) T.b_Year_weeks .nil (fun _ => pass_takes (takes_of rfl rfl rfl rfl))) pa_nil)) (pe_callB (call_repr hgu hr T.sys) (by rfl) T.n_repr boot_repr (pa_cons (pv 1) pa_nil)) (nomark _)) (pe_one (pe_cmpR (op_eqO T.eq_Year (ok_Year_eq T) T.b_Year_eq hgu (hr.mono (by decide))) (ge_call (ok_l_all T) hgu (hr.mono (by decide)) rfl T.g_l_all T.k_l_all T.b_l_all .nil (fun _ => pass_takes (takes_of rfl rfl rfl rfl)) (pa_cons (pv 13) (pa_cons (pv 2) pa_nil))) (pv 14) (nomark _))))))))))))))))))))))), ?_⟩)
  · obtain ⟨b, R, D, x, y, z, n, rfl, _⟩ := h
    rfl
  · obtain ⟨b, R, D, x, y, z, n, rfl, hI, bo, hn, go⟩ := h
    wtm_at "go"
    wtm_at "sn"
    refine lweeksW_use hI bo (by omega) (fun wl xs ws x1 y1 z1 n1 H1 D1 hI1 ex1 bo1 hn1 ew pl w0 w52 wo => ?_)
    have hxl := pl.length
    wtm_at "sn"
    rw [hxl]
    rename_i pr0 H2 D2 hI2 x2 er0
    rw [hxl] at er0
    have rgl := rgV_length 1 ((ws.length : Int) + 1)
    refine turned_use hI2 bo1 (by omega) er0 (by omega) (fun pt0 ys0 x3 y3 z3 n3 H3 D3 hI3 ex3 bo3 hn3 et0 pm0 => ?_)
    wtm_at "sn"
    rename_i tk x4 y4 z4 H4 hI4 bo4 tk0 tk1
    refine RSl.lst (hI4.dat et0) ?_
    wtm_at "sn"
    obtain ⟨us, pus, pys⟩ := paired_perm pm0 rg_paired
    have usn : us.Nodup := pus.nodup_iff.mpr (by
      refine List.Pairwise.map _ (fun a b (h : a ≠ b) e => h ?_) List.nodup_range
      omega)
    have usb : ∀ i ∈ us, 1 ≤ i ∧ i ≤ ws.length := fun i hi => by
      obtain ⟨j, hj, rfl⟩ := List.mem_map.mp (pus.mem_iff.mp hi)
      have := List.mem_range.mp hj
      omega
    rename_i pt1 H5 D5 hI5 x5 et1
    rw [show (some tk : Option Int) = some ((tk.toNat : Nat) : Int) by congr 1; omega, cutV_to] at et1
    have pzs := paired_take tk.toNat pys
    have zsn : (us.take tk.toNat).Nodup := usn.sublist (List.take_sublist _ _)
    have zsb : ∀ i ∈ us.take tk.toNat, 1 ≤ i ∧ i ≤ ws.length := fun i hi => usb i (List.mem_of_mem_take hi)
    have zsl : (us.take tk.toNat).length ≤ 8 := by
      rw [List.length_take]
      omega
    generalize us.take tk.toNat = zs at pzs zsn zsb zsl
    generalize ys0.take tk.toNat = vz at pzs et1
    have vzl := pzs.length
    have x15 := x2.trans (ex3.trans x5)
    clear hI hI1 hI2 hI3 hI4 er0 et0 pm0 pys pus usn usb rgl
    refine lc_lst (xs := vz) (fun j acc R' D' => ∃ (ts : List Tri) (x y z : Int) (n' : Nat), R' = (b, bx x y z) :: R ∧ BoxOk n' x y z ∧ n' ≤ n3 + 1 + 10 * j ∧ Ex D5 D' ∧ ts.map (·.1) = zs.take j ∧ Paired (TriAt D') acc ts ∧ ∀ t ∈ ts, WOk t.2) hI5 ⟨[], _, _, _, _, rfl, bo4, by omega, Ex.refl _, rfl, .nil, all_n⟩ (fun j acc R' D' q => ?_) (fun L j acc v R' D' H' hv hI' q hl => ?_) (fun Lr acc R' D' H' hI' q hl => ?_)
    · obtain ⟨_, _, _, _, _, _, _, _, q, _⟩ := q
      exact q _ _ et1
    · obtain ⟨ts, x6, y6, z6, n6, rfl, bo6, hn6, xq, hts, pts, wts⟩ := q
      obtain ⟨i, hi, rfl⟩ := paired_get pzs hv
      have hj := (List.getElem?_eq_some_iff.mp hv).1
      wtm_at "sn"
      rename_i p7 H7 D7 hI7 x7 e7
      refine lweek_use hI7.swap bo6 (by omega) (fun q8 pq x8 y8 z8 n8 H8 D8 hI8 ex8 bo8 hn8 eq8 wq8 => ?_)
      refine RAdd.tup (hI8.dat (ex8 _ _ e7)) (hI8.dat eq8) (fun z => nomatch z) (fun z => nomatch z) (small_ok (Nat.le_of_ble_eq_true rfl)) ?_
      wtm_at "sn"
      rename_i p9 H9 D9 hI9 x9 e9
      have xall := x7.trans (ex8.trans x9)
      refine le_mk hI9.swap ⟨ts ++ [(i, pq)], _, _, _, _, rfl, bo8, by omega, xq.trans xall, ?_, paired_snoc ⟨p9, rfl, e9⟩ (paired_mono (fun _ _ h => h.mono xall) pts), fun t ht => ?_⟩ hl (by omega)
      · rw [List.map_append, hts, take_more hi]
        rfl
      · rcases List.mem_append.mp ht with h | h
        · exact wts t h
        · rw [List.mem_singleton.mp h]
          exact wq8
    · obtain ⟨ts, x6, y6, z6, n6, rfl, bo6, hn6, xq, hts, pts, wts⟩ := q
      rw [vzl, List.take_length] at hts
      obtain ⟨D7, hI7, x7, e7⟩ := hI'.fr1
      have pts7 := paired_mono (fun _ _ h => TriAt.mono h x7) pts
      have x17 := x15.trans (xq.trans x7)
      have ew7 := x17 _ _ ew
      have pl7 := pl.mono x17
      have x07 := ex1.trans x17
      have tsl := ts_len hts
      have accl := pts.length
      have tok : ∀ t ∈ ts, TriOk ws.length t := fun t ht => by
        obtain ⟨a, c⟩ := zsb t.1 (hts ▸ List.mem_map.mpr ⟨t, ht, rfl⟩)
        exact ⟨a, c, wts t ht⟩
      have tnd : (ts.map (·.1)).Nodup := by rw [hts]; exact zsn
      clear hI' hI5 pts x15 ew pl x5 ex3 x2 xq x7 et1 ex1 pzs zsn zsb wts hts
      wtm_at "sn"
      refine make_yr (by assumption) (.l ew7) pl7 w0 w52 wo (fun nl1 td1 H8 D8 hI8 x8 iy1 => ?_)
      wtm_at "sn"
      rename_i ya _ _ _ ptu H9 D9 hI9 x9 etu yb dyb H10 hI10
      refine make_yr hI10 (.t etu) (pl7.mono (x8.trans x9)) w0 w52 wo (fun nl2 td2 H11 D11 hI11 x11 iy2 => ?_)
      have x711 := x8.trans (x9.trans x11)
      wtm_at "sn"
      rename_i yc dyc H12 hI12
      refine make_yr hI12 (.l (x711 _ _ ew7)) (pl7.mono x711) w0 w52 wo (fun nl3 td3 H13 D13 hI13 x13 iy3 => ?_)
      have x713 := x711.trans x13
      have iy1' := iy1.mono (x9.trans (x11.trans x13))
      have iy2' := iy2.mono x13
      have e713 := x713 _ _ e7
      have pts13 := paired_mono (fun _ _ h => TriAt.mono h x713) pts7
      have ew13 := x713 _ _ ew7
      have pl13 := pl7.mono x713
      have x013 := x07.trans x713
      clear hI7 hI8 hI9 hI10 hI11 hI12 iy1 iy2 e7 pts7 ew7 pl7 x07 x713 x711 x8 x9 x11 x13 x17 etu
      wtm_at "sn"
      rename_i at_ x14 y14 z14 H14 hI14 bo14 at0 at1
      refine turned_use hI14 bo14 (by omega) e713 (by omega) (fun ptd vu x15 y15 z15 n15 H15 D15 hI15 ex15 bo15 hn15 etd pmu => ?_)
      obtain ⟨us, pus, pvu⟩ := paired_perm pmu (paired_mono (fun _ _ h => TriAt.mono h ex15) pts13)
      have iy1a := iy1'.mono ex15
      have iy2a := iy2'.mono ex15
      have iy3a := iy3.mono ex15
      have er15 := ex15 _ _ e713
      have pts15 := paired_mono (fun _ _ h => TriAt.mono h ex15) pts13
      have ew15 := ex15 _ _ ew13
      have pl15 := pl13.mono ex15
      have x015 := x013.trans ex15
      obtain ⟨A, rfl⟩ := Int.eq_ofNat_of_zero_le at0
      clear hI13 hI14 iy1' iy2' iy3 e713 pts13 ew13 pl13 x013 ex15 pmu
      wtm_at "sn"
      refine RSl.lst (hI15.dat er15) ?_
      wtm_at "sn"
      rename_i pra H16 D16 hI16 x16 era
      rw [cutV_to] at era
      have t0 : ∀ {D : Hp} {n : Int}, Told D [] (fun _ => none) n := fun {D n} => ⟨fun _ _ => rfl, (fun _ _ h => nomatch h), [], rfl, .nil, (fun _ h => nomatch h)⟩
      have hI17 : HI H16 ((td1, .dK []) :: (b, bx x15 y15 z15) :: (td2, .dK []) :: (td3, .dK []) :: R) D16 := HI.front (A := [_, _, _]) (HI.front (A := [_, _]) (HI.front (A := [_, _]) (HI.front (A := [_]) hI16)))
      have iy1b := iy1a.mono x16
      have ptsA := paired_take A (paired_mono (fun _ _ h => TriAt.mono h x16) pts15)
      have hA : A ≤ ts.length := by omega
      refine for_lst (xs := acc.take A) (fun j σ R' D' => ∃ (kvs : List (Key × V)) (c9 c10 c11 : Option V), σ = [some (.ref b), some (.ref wl), some (.int ws.length), some (.ref Lr), some (.ref ya), some (.ref yb), some (.ref yc), some (.int A), some (.ref ptd), c9, c10, c11, none, none, none, none, none, none, none, none] ∧ R' = (td1, .dK kvs) :: (b, bx x15 y15 z15) :: (td2, .dK []) :: (td3, .dK []) :: R ∧ Ex D16 D' ∧ Told D' kvs (mOf (ts.take j)) ws.length) hI17 ⟨[], _, _, _, rfl, rfl, Ex.refl _, t0⟩ (fun j σ R' D' q => ?_) (fun j v σ R' D' H' hv hI' q => ?_) (fun σ R' D' H' hI' q => ?_)
      · obtain ⟨_, _, _, _, _, _, q, _⟩ := q
        exact q _ _ era
      · obtain ⟨kvs, c9, c10, c11, rfl, rfl, xq, told⟩ := q
        obtain ⟨t, ht, pq, rfl, ept⟩ := paired_get ptsA hv
        have hj := (List.getElem?_eq_some_iff.mp hv).1
        rw [List.length_take] at hj
        have ht2 : ts[j]? = some t := by
          rw [List.getElem?_take, if_pos (by omega)] at ht
          exact ht
        have eptq := xq _ _ ept
        have iyq := iy1b.mono xq
        obtain ⟨⟨dxq, eaq⟩, _⟩ := id iyq
        obtain ⟨t1, t2, tw⟩ := tok t (List.mem_of_getElem? ht2)
        wtm_at "sn"
        refine tell_use (k := t.1) (w := t.2.1) (c := t.2.2) hI' iyq told t1 t2 tw (fun kvs' H18 D18 hI18 x18 t18 => ?_)
        wtm_at "sn"
        refine ⟨_, _, hI18, kvs', _, _, _, rfl, rfl, xq.trans x18, ?_⟩
        rw [take_more ht2, mOf_snoc (by rw [← take_more ht2]; exact tnd.sublist ((List.take_sublist _ _).map _))]
        exact t18
      · obtain ⟨kvs, c9, c10, c11, rfl, rfl, xq, told⟩ := q
        rw [List.length_take, Nat.min_eq_left (by omega)] at told
        have x1517 := x16.trans xq
        have iy1c := iy1a.mono x1517
        have iy2c := iy2a.mono x1517
        have iy3c := iy3a.mono x1517
        have er17 := x1517 _ _ er15
        have etd17 := x1517 _ _ etd
        have pts17 := paired_mono (fun _ _ h => TriAt.mono h x1517) pts15
        have pvu17 := paired_mono (fun _ _ h => TriAt.mono h x1517) pvu
        have ew17 := x1517 _ _ ew15
        have pl17 := pl15.mono x1517
        have x017 := x015.trans x1517
        clear hI15 hI16 hI17 iy1b ptsA iy1a iy2a iy3a er15 etd pts15 pvu ew15 pl15 x015 x1517 x16 xq era
        obtain ⟨⟨dxq, eaq⟩, _⟩ := id iy1c
        wtm_at "sn"
        refine copied_use hI' iy1c (List.mem_cons_self ..) told (fun yd nl4 td4 H18 D18 hI18 x18 iy4 => ?_)
        have eaq18 := x18 _ _ eaq
        wtm_at "sn"
        refine copied_use hI18 (iy1c.mono x18) (List.mem_cons_of_mem _ (List.mem_cons_self ..)) (told.mono x18) (fun ye nl5 td5 H19 D19 hI19 x19 iy5 => ?_)
        wtm_at "sn"
        have x1719 := x18.trans x19
        have iy1d := iy1c.mono x1719
        have iy2d := iy2c.mono x1719
        have iy3d := iy3c.mono x1719
        have iy4d := iy4.mono x19
        have told19 := told.mono x1719
        refine lall_use hI19 iy5 (List.mem_cons_self ..) told19 (fun H20 D20 hI20 x20 => ?_)
        wtm_at "sn"
        have x1720 := x1719.trans x20
        have hI21 : HI H20 ((b, bx x15 y15 z15) :: (td2, .dK []) :: (td1, .dK kvs) :: (td3, .dK []) :: (td4, .dK kvs) :: (td5, .dK kvs) :: R) D20 := HI.front (A := [_, _, _, _, _]) (HI.front (A := [_, _, _, _, _]) (HI.front (A := [_, _, _]) (HI.front (A := [_, _, _, _, _]) (HI.front (A := [_]) hI20))))
        have iy1e := iy1d.mono x20
        have iy2e := iy2d.mono x20
        have iy3e := iy3d.mono x20
        have iy4e := iy4d.mono x20
        have iy5e := iy5.mono x20
        have toldA := told19.mono x20
        have etd20 := x1720 _ _ etd17
        have er20 := x1720 _ _ er17
        have pts20 := paired_mono (fun _ _ h => TriAt.mono h x1720) pts17
        have pvu20 := paired_mono (fun _ _ h => TriAt.mono h x1720) pvu17
        have ew20 := x1720 _ _ ew17
        have pl20 := pl17.mono x1720
        have x020 := x017.trans x1720
        have vul : vu.length = us.length := pvu20.length
        have usl : us.length = ts.length := pus.length_eq
        have und : (us.map (·.1)).Nodup := (pus.map (·.1)).nodup_iff.mpr tnd
        have uok : ∀ t ∈ us, TriOk ws.length t := fun t ht => tok t (pus.mem_iff.mp ht)
        clear hI' hI18 hI19 hI20 iy1d iy2d iy3d iy4d iy5 iy4 iy1c iy2c iy3c told19 told etd17 er17 pts17 pvu17 ew17 pl17 x017 x1720 x1719 x18 x19 x20 eaq eaq18
        generalize eKT : (allD ws (mOf (ts.take A))).shown = KT
        refine for_enum (xs := vu) (fun j σ R' D' => ∃ (kvs1 kvs2 : List (Key × V)) (m2 : Int → Option (Int × Int)) (c15 c16 : Option V) (x y z : Int) (n' : Nat), σ = [some (.ref b), some (.ref wl), some (.int ws.length), some (.ref Lr), some (.ref ya), some (.ref yb), some (.ref yc), some (.int A), some (.ref ptd), c9, c10, c11, some (.ref yd), some (.ref ye), some (.str KT), c15, c16, none, none, none] ∧
          R' = (b, bx x y z) :: (td2, .dK kvs2) :: (td1, .dK kvs1) :: (td3, .dK []) :: (td4, .dK kvs) :: (td5, .dK kvs) :: R ∧ BoxOk n' x y z ∧ n' ≤ n15 + 20 * j ∧ Ex D20 D' ∧ Told D' kvs1 (mOf (ts.take (A + j))) ws.length ∧ Told D' kvs2 m2 ws.length ∧ (∀ t ∈ us.take j, m2 t.1 = some t.2) ∧ (∀ i, (∀ t ∈ ts, i ≠ t.1) → m2 i = none)) hI21
          ⟨kvs, [], (fun _ => none), _, _, _, _, _, _, rfl, rfl, bo15, by omega, Ex.refl _, toldA, t0, all_n, fun _ _ => rfl⟩ (fun j σ R' D' q => ?_) (fun j v TT σ R' D' D'' H' hv hI' x34 eT q => ?_) (fun σ R' D' H' hI' q => ?_)
        · obtain ⟨_, _, _, _, _, _, _, _, _, _, _, _, _, q, _⟩ := q
          exact q _ _ etd20
        · obtain ⟨kvs1, kvs2, m2, c15, c16, x22, y22, z22, n22, rfl, rfl, bo22, hn22, xq, tl1, tl2, hm1, hm2⟩ := q
          have x34' := xq.trans x34
          obtain ⟨t, ht, pq, rfl, ept⟩ := paired_get pvu20 hv
          have hj := (List.getElem?_eq_some_iff.mp hv).1
          have eptq := x34' _ _ ept
          obtain ⟨t1, t2, tw⟩ := uok t (List.mem_of_getElem? ht)
          wtm_at "sn"
          refine RSl.lst (hI'.dat (x34' _ _ etd20)) ?_
          wtm_at "sn"
          rename_i pdr H23 D23 hI23 x23 edr
          rw [cutV_from] at edr
          have x2023 := x34'.trans x23
          have iy2f := iy2e.mono x2023
          obtain ⟨⟨dxf, ebf⟩, _⟩ := id iy2f
          refine lbetween_use hI23 bo22 (by omega) iy2f (tl2.mono (x34.trans x23)) edr (paired_drop j (paired_mono (fun _ _ h => TriAt.mono h x2023) pvu20)) (by rw [List.length_drop]; omega) (fun t ht => uok t (List.mem_of_mem_drop ht)) (fun x24 y24 z24 n24 kvs2' m2' H24 D24 hI24 x24' bo24 hn24 tl24 hm24 => ?_)
          have x2324 := x23.trans x24'
          have eptr := x2324 _ _ eptq
          have ebf24 := x24' _ _ ebf
          have erow : D24 pq = some (.tup [.int t.1, .int t.2.1, .int t.2.2]) := eptr
          wtm_at "sn"
          refine tell_use (k := t.1) (w := t.2.1) (c := t.2.2) hI24.swap (iy2f.mono x24') tl24 t1 t2 tw (fun kvs2b H25 D25 hI25 x25 t25 => ?_)
          have x2025 := x2023.trans (x24'.trans x25)
          have er25 := x2025 _ _ er20
          have iy1f := iy1e.mono x2025
          have tl1f := tl1.mono (x34.trans (x2324.trans x25))
          obtain ⟨⟨dxg, eag⟩, _⟩ := id iy1f
          have nds : ((us.take j).map (·.1) ++ (us.drop j).map (·.1)).Nodup := by
            rw [← List.map_append, List.take_append_drop]
            exact und
          have tin : t ∈ us.drop j := List.mem_of_getElem? (i := 0) (by rw [List.getElem?_drop]; exact ht)
          have hn1 : ∀ u ∈ us.take (j + 1), putM m2' t.1 (some t.2) u.1 = some u.2 := fun u hu => by
            rw [take_more ht] at hu
            unfold putM
            rcases List.mem_append.mp hu with h | h
            · have ap : ∀ w ∈ us.drop j, u.1 ≠ w.1 := fun w hw => (List.nodup_append.mp nds).2.2 _ (List.mem_map.mpr ⟨u, h, rfl⟩) _ (List.mem_map.mpr ⟨w, hw, rfl⟩)
              rw [if_neg (ap t tin), hm24 _ ap]
              exact hm1 u h
            · rw [List.mem_singleton.mp h, if_pos rfl]
          have hn2 : ∀ i, (∀ t ∈ ts, i ≠ t.1) → putM m2' t.1 (some t.2) i = none := fun i hi => by
            unfold putM
            rw [if_neg (hi t (pus.mem_iff.mp (List.mem_of_getElem? ht))), hm24 i fun w hw => hi w (pus.mem_iff.mp (List.mem_of_mem_drop hw))]
            exact hm2 i hi
          clear hI' hI23 hI24 tl24 tl1 tl2 x2324 ebf ebf24 hm24 edr
          wtm_at "sn"
          refine if_dec (fun hk => ?_) (fun hk => ?_)
          · obtain ⟨v', hv'⟩ : ∃ v', acc[A + j]? = some v' := ⟨_, List.getElem?_eq_getElem (by omega)⟩
            obtain ⟨t', ht', pq', rfl, ept'⟩ := paired_get pts20 hv'
            have ept25 := x2025 _ _ ept'
            obtain ⟨a1, a2, aw⟩ := tok t' (List.mem_of_getElem? ht')
            have eix : atI acc ((A : Int) + (j : Int)) = some (.ref pq') := (atI_ofI (by omega)).trans (by rw [show ((A : Int) + (j : Int)).toNat = A + j by omega]; exact hv')
            wtm_at "sn"
            refine RIx.l (hI25.dat er25) eix ?_
            wtm_at "sn"
            refine RIx.l (hI25.dat er25) eix ?_
            wtm_at "sn"
            refine RIx.l (hI25.dat er25) eix ?_
            wtm_at "sn"
            refine tell_use (k := t'.1) (w := t'.2.1) (c := t'.2.2) hI25.up2 iy1f tl1f a1 a2 aw (fun kvs1b H26 D26 hI26 x26 t26 => ?_)
            have hI27 := HI.front (A := [_, _]) (HI.front (A := [_]) hI26)
            wtm_at "sn"
            refine ⟨_, _, hI27, kvs1b, kvs2b, _, _, _, _, _, _, _, rfl, rfl, bo24, by omega, x2025.trans x26, ?_, t25.mono x26, hn1, hn2⟩
            rw [show A + (j + 1) = (A + j) + 1 by omega, take_more ht', mOf_snoc (by rw [← take_more ht']; exact tnd.sublist ((List.take_sublist _ _).map _))]
            exact t26
          · wtm_at "sn"
            refine ⟨_, _, hI25.swap, kvs1, kvs2b, _, _, _, _, _, _, _, rfl, rfl, bo24, by omega, x2025, ?_, t25, hn1, hn2⟩
            rw [List.take_of_length_le (by omega)] at tl1f ⊢
            exact tl1f
        · obtain ⟨kvs1, kvs2, m2, c15, c16, x22, y22, z22, n22, rfl, rfl, bo22, hn22, xq, tl1, tl2, hm1, hm2⟩ := q
          have em2 : m2 = mOf ts := by
            funext i
            by_cases h : ∃ t ∈ ts, i = t.1
            · obtain ⟨t, ht, rfl⟩ := h
              rw [mOf_yes tnd ht]
              exact hm1 t (by rw [vul, List.take_length]; exact pus.mem_iff.mpr ht)
            · have h1 : ∀ t ∈ ts, i ≠ t.1 := fun t ht e => h ⟨t, ht, e⟩
              rw [mOf_no h1]
              exact hm2 i h1
          subst em2
          rw [List.take_of_length_le (by omega)] at tl1
          have er22 := xq _ _ er20
          have x022 := x020.trans xq
          have iy4q := iy4e.mono xq
          have toldAq := toldA.mono xq
          clear hI21 hm1 hm2
          wtm_at "sn"
          refine RSl.lst (hI'.dat er22) ?_
          wtm_at "sn"
          rename_i pdr H23 D23 hI23 x23 edr
          rw [cutV_from] at edr
          refine turned_use hI23 bo22 (by omega) edr (by rw [List.length_drop]; omega) (fun ptv vv x24 y24 z24 n24 H24 D24 hI24 ex24 bo24 hn24 etv pmv => ?_)
          have x2024 := xq.trans (x23.trans ex24)
          obtain ⟨vs, pvs, pvv⟩ := paired_perm pmv (paired_drop A (paired_mono (fun _ _ h => TriAt.mono h x2024) pts20))
          have pall : (ts.take A ++ vs).Perm ts := (pvs.append_left _).trans (by rw [List.take_append_drop])
          have ndall : ((ts.take A ++ vs).map (·.1)).Nodup := (pall.map (·.1)).nodup_iff.mpr tnd
          have x2224 := x23.trans ex24
          wtm_at "sn"
          have hI25 : HI H24 ((td4, .dK kvs) :: (b, bx x24 y24 z24) :: (td2, .dK kvs2) :: (td1, .dK kvs1) :: (td3, .dK []) :: (td5, .dK kvs) :: R) D24 := HI.front (A := [_, _, _, _]) hI24
          have iy4r := iy4q.mono x2224
          refine for_lst (xs := vv) (fun j σ R' D' => ∃ (kvs4 : List (Key × V)) (d9 d10 d11 : Option V), σ = [some (.ref b), some (.ref wl), some (.int ws.length), some (.ref Lr), some (.ref ya), some (.ref yb), some (.ref yc), some (.int A), some (.ref ptd), d9, d10, d11, some (.ref yd), some (.ref ye), some (.str KT), c15, c16, none, none, none] ∧ R' = (td4, .dK kvs4) :: (b, bx x24 y24 z24) :: (td2, .dK kvs2) :: (td1, .dK kvs1) :: (td3, .dK []) :: (td5, .dK kvs) :: R ∧ Ex D24 D' ∧ Told D' kvs4 (mOf (ts.take A ++ vs.take j)) ws.length) hI25 ⟨kvs, _, _, _, rfl, rfl, Ex.refl _, by rw [List.take_zero, List.append_nil]; exact toldAq.mono x2224⟩ (fun j σ R' D' q => ?_) (fun j v σ R' D' H' hv hI' q => ?_) (fun σ R' D' H' hI' q => ?_)
          · obtain ⟨_, _, _, _, _, _, q, _⟩ := q
            exact q _ _ etv
          · obtain ⟨kvs4, d9, d10, d11, rfl, rfl, xq2, told⟩ := q
            obtain ⟨t, ht, pq, rfl, ept⟩ := paired_get pvv hv
            have eptq := xq2 _ _ ept
            have iyq := iy4r.mono xq2
            obtain ⟨⟨dxq, eaq⟩, _⟩ := id iyq
            obtain ⟨t1, t2, tw⟩ := tok t (pall.mem_iff.mp (List.mem_append_right _ (List.mem_of_getElem? ht)))
            wtm_at "sn"
            refine tell_use (k := t.1) (w := t.2.1) (c := t.2.2) hI' iyq told t1 t2 tw (fun kvs' H18 D18 hI18 x18 t18 => ?_)
            wtm_at "sn"
            refine ⟨_, _, hI18, kvs', _, _, _, rfl, rfl, xq2.trans x18, ?_⟩
            rw [take_more ht, ← List.append_assoc, mOf_snoc (by
              rw [List.append_assoc, ← take_more ht]
              exact ndall.sublist (((List.Sublist.refl _).append (List.take_sublist _ _)).map _))]
            exact t18
          · obtain ⟨kvs4, d9, d10, d11, rfl, rfl, xq2, told⟩ := q
            have e4 : mOf (ts.take A ++ vs.take vv.length) = mOf ts := by
              rw [show vs.take vv.length = vs from List.take_of_length_le (by rw [pvv.length]; exact Nat.le_refl _)]
              exact mOf_perm pall ndall
            rw [e4] at told
            have x2026 := x2024.trans xq2
            have x2226 := x2224.trans xq2
            have iy1g := iy1e.mono x2026
            have iy2g := iy2e.mono x2026
            have iy3g := iy3e.mono x2026
            have iy4g := iy4e.mono x2026
            have iy5g := iy5e.mono x2026
            have tl1g := tl1.mono x2226
            have tl2g := tl2.mono x2226
            have toldAg := toldA.mono x2026
            have etd26 := x2026 _ _ etd20
            have er26 := x2026 _ _ er20
            have pts26 := paired_mono (fun _ _ h => TriAt.mono h x2026) pts20
            have pvu26 := paired_mono (fun _ _ h => TriAt.mono h x2026) pvu20
            have ew26 := x2026 _ _ ew20
            have pl26 := pl20.mono x2026
            have x026 := x020.trans x2026
            clear hI23 hI24 hI25 iy1e iy2e iy3e iy4e iy5e tl1 tl2 toldA toldAq etd20 er20 pts20 pvu20 ew20 pl20 x020 x2026 x2226 x2224 x2024 iy4q iy4r x022 er22 edr etv pmv pvv pvs pall ndall e4 xq xq2 x23 ex24
            wtm_at "sn"
            refine lall_use hI' iy1g (by simp) tl1g (fun H27 D27 hI27 x27 => ?_)
            generalize eDT : (allD ws (mOf ts)).shown = DT
            wtm_at "sn"
            rename_i pyy H28 D28 hI28 x28 eyy
            have x2628 := x27.trans x28
            have lys : ∀ (j : Nat) (v : V), [V.ref yb, V.ref yd][j]? = some v → ∃ (y nl td : Addr) (kv : List (Key × V)), v = .ref y ∧ IsYr K D28 y nl td ws ∧ ((td, HO.dK kv) : Addr × HO) ∈ (td4, HO.dK kvs4) :: (b, bx x24 y24 z24) :: (td2, .dK kvs2) :: (td1, .dK kvs1) :: (td3, .dK []) :: (td5, .dK kvs) :: R ∧ Told D28 kv (mOf ts) ws.length := fun j v h => by
              have hj : j = 0 ∨ j = 1 := by
                have := (List.getElem?_eq_some_iff.mp h).1
                simp at this
                omega
              rcases hj with rfl | rfl
              · cases h
                exact ⟨yb, nl2, td2, kvs2, rfl, iy2g.mono x2628, by simp, tl2g.mono x2628⟩
              · cases h
                exact ⟨yd, nl4, td4, kvs4, rfl, iy4g.mono x2628, by simp, told.mono x2628⟩
            refine lc_lst (xs := [V.ref yb, V.ref yd]) (fun j acc R' D' => R' = (td4, HO.dK kvs4) :: (b, bx x24 y24 z24) :: (td2, .dK kvs2) :: (td1, .dK kvs1) :: (td3, .dK []) :: (td5, .dK kvs) :: R ∧ Ex D28 D' ∧ acc = List.replicate j (V.str DT)) hI28 ⟨rfl, Ex.refl _, rfl⟩ (fun j acc R' D' q => ?_) (fun L j acc v R' D' H' hv hI' q hl => ?_) (fun L acc R' D' H' hI' q hl => ?_)
            · exact q.2.1 _ _ eyy
            · obtain ⟨rfl, xq, rfl⟩ := q
              obtain ⟨y, nl, td, kv, rfl, iyy, mmy, ty⟩ := lys j v hv
              have hj := (List.getElem?_eq_some_iff.mp hv).1
              wtm_at "sn"
              refine lall_use hI' (iyy.mono xq) (List.mem_cons_of_mem _ mmy) (ty.mono xq) (fun H29 D29 hI29 x29 => ?_)
              rw [eDT]
              refine le_mk hI29 ⟨rfl, xq.trans x29, ?_⟩ hl (by simp at hj; omega)
              rw [List.replicate_succ']
            · obtain ⟨rfl, xq, rfl⟩ := q
              obtain ⟨D30, hI30, x30, e30⟩ := hI'.fr1
              wtm_at "sn"
              rename_i pdd H31 D31 hI31 x31 e31
              refine .same (hI31.dat (x31 _ _ e30)) (hI31.dat e31) (fun v hv => ?_) ?_
              · have : v = .str DT := by
                  have h2 : v ∈ [V.str DT, V.str DT] := hv
                  simpa using h2
                rw [this]
                exact .inl rfl
              have x2831 := xq.trans (x30.trans x31)
              have x2631 := x2628.trans x2831
              have yr1 := (iy1g.mono x2631).at (R := (td4, HO.dK kvs4) :: (b, bx x24 y24 z24) :: (td2, .dK kvs2) :: (td1, .dK kvs1) :: (td3, .dK []) :: (td5, .dK kvs) :: R) (by simp) (tl1g.mono x2631)
              have yr2 := (iy2g.mono x2631).at (R := (td4, HO.dK kvs4) :: (b, bx x24 y24 z24) :: (td2, .dK kvs2) :: (td1, .dK kvs1) :: (td3, .dK []) :: (td5, .dK kvs) :: R) (by simp) (tl2g.mono x2631)
              have yr4 := (iy4g.mono x2631).at (R := (td4, HO.dK kvs4) :: (b, bx x24 y24 z24) :: (td2, .dK kvs2) :: (td1, .dK kvs1) :: (td3, .dK []) :: (td5, .dK kvs) :: R) (by simp) (told.mono x2631)
              wtm_at "sn"
              refine eqY_year T hI31 yr1 yr2 (fun H32 D32 hI32 x32 => ?_)
              rw [decide_eq_true rfl]
              wtm_at "sn"
              refine neY_year T hI32 (yr1.mono x32) (yr4.mono x32) (fun H33 D33 hI33 x33 => ?_)
              rw [decide_eq_true rfl]
              wtm_at "sn"
              have x2633 := x2631.trans (x32.trans x33)
              have er33 := x2633 _ _ er26
              have pts33 := paired_mono (fun _ _ h => TriAt.mono h x2633) pts26
              let enc : Tri → PyData := fun t => .tuple [.int t.1, .int t.2.1, .int t.2.2]
              refine ⟨Lr, _, Tri, ts, enc, TriAt D33, rfl, hI33.dat er33, pts33, (fun v t ⟨q, e, h⟩ => by rw [e]; exact hI33.rep (.tup h (.cons (.int _) (.cons (.int _) (.cons (.int _) .nil))))), PySem.W.AllAlike.of fun _ _ => rfl, PySem.W.Sortable.tuples fun _ => ⟨_, _, rfl⟩, by omega, fun b _ => (by simp [enc, PyData.depthAll, PyData.depth]), fun ysS pS => ?_⟩
              have ssp : (ts.mergeSort (PySem.W.dataLe false enc)).Perm ts := List.mergeSort_perm _ _
              have ssr : (ts.mergeSort (PySem.W.dataLe false enc)).Pairwise (fun a b => a.1 ≤ b.1) := head_le (fun t : Tri => t.1) (r := fun t => [.int t.2.1, .int t.2.2]) fun _ => rfl
              generalize ts.mergeSort (PySem.W.dataLe false enc) = ss at pS ssp ssr
              have ssl : ysS.length = ss.length := pS.length
              have ssl2 : ss.length = ts.length := ssp.length_eq
              wtm_at "sn"
              rename_i pso H34 D34 hI34 x34 eso
              have pS34 := paired_mono (fun _ _ h => TriAt.mono h x34) pS
              refine lc_lst (xs := ysS) (fun j acc R' D' => ∃ (ps : List Addr) (kv : List (Key × V)), R' = (td4, HO.dK kvs4) :: (b, bx x24 y24 z24) :: (td2, .dK kvs2) :: (td1, .dK kvs1) :: (td3, .dK []) :: (td5, .dK kvs) :: R ∧ Ex D34 D' ∧ acc = ps.map V.ref ∧ ps.length = j ∧ Paired (fun p kv => D' p = some (.tup [kV kv.1, kv.2])) ps kv ∧ kv.map (·.1) = ((ss.take j).map (·.1)).map Sum.inl ∧ ∀ e ∈ kv, ∀ k, e.1 = .inl k → ∃ q, mOf ts k = some q ∧ PairAt D' e.2 q) hI34 ⟨[], [], rfl, Ex.refl _, rfl, rfl, .nil, rfl, all_n⟩ (fun j acc R' D' q => ?_) (fun L j acc v R' D' H' hv hI' q hl => ?_) (fun L acc R' D' H' hI' q hl => ?_)
              · obtain ⟨_, _, _, q, _⟩ := q
                exact q _ _ eso
              · obtain ⟨ps, kv, rfl, xq, rfl, pl', pkv, ekv, hkv⟩ := q
                obtain ⟨t, ht, pq, rfl, ept⟩ := paired_get pS34 hv
                have hj := (List.getElem?_eq_some_iff.mp hv).1
                have eptq := xq _ _ ept
                wtm_at "sn"
                refine RSlTu.tup (hI'.dat eptq) (fun h => absurd h.1 (by show ¬ (1 : Nat) = 0; decide)) ?_
                wtm_at "sn"
                rename_i p1 H35 D35 hI35 x35 e35 p2 H36 D36 hI36 x36 e36
                have x3536 := x35.trans x36
                have e35' : D36 p1 = some (.tup [.int t.2.1, .int t.2.2]) := x36 _ _ e35
                refine le_mk hI36 ⟨ps ++ [p2], kv ++ [(.inl t.1, .ref p1)], rfl, xq.trans x3536, by rw [List.map_append]; rfl, by rw [List.length_append, pl']; rfl, paired_snoc (r := fun (p : Addr) (kv : Key × V) => D36 p = some (.tup [kV kv.1, kv.2])) e36 (paired_mono (fun _ _ h => x3536 _ _ h) pkv), ?_, fun e he k hk => ?_⟩ hl (by omega)
                · rw [take_more ht, List.map_append, ekv, List.map_append, List.map_append]
                  rfl
                · rcases List.mem_append.mp he with h | h
                  · obtain ⟨q, a, c⟩ := hkv e h k hk
                    exact ⟨q, a, c.mono x3536⟩
                  · rw [List.mem_singleton.mp h] at hk ⊢
                    cases hk
                    exact ⟨t.2, mOf_yes tnd (ssp.mem_iff.mp (List.mem_of_getElem? ht)), p1, rfl, e35'⟩
              · obtain ⟨ps, kv, rfl, xq, rfl, pl', pkv, ekv, hkv⟩ := q
                obtain ⟨D36, hI36, x36, e36⟩ := hI'.fr1
                rw [ssl, List.take_length] at ekv
                have ssn : (ss.map (·.1)).Nodup := (ssp.map (·.1)).nodup_iff.mpr tnd
                have ndk : (kv.map (·.1)).Nodup := by
                  rw [ekv]
                  exact List.Pairwise.map _ (fun a b h e => h (Sum.inl.inj e)) ssn
                have hkv36 : ∀ e ∈ kv, ∀ k, e.1 = .inl k → ∃ q, mOf ts k = some q ∧ PairAt D36 e.2 q := fun e he k hk => by
                  obtain ⟨q, a, c⟩ := hkv e he k hk
                  exact ⟨q, a, c.mono x36⟩
                have pkv36 := paired_mono (fun _ _ h => x36 _ _ h) pkv
                clear hkv pkv
                have x2636 := x2633.trans (x34.trans (xq.trans x36))
                have iy1h := iy1g.mono x2636
                have tl1h := tl1g.mono x2636
                obtain ⟨⟨dxh, eah⟩, _⟩ := id iy1h
                wtm_at "sn"
                refine .p (hI36.dat e36) (paired_mono (fun _ _ h => hI36.dat h) pkv36) ?_
                rw [merge_nd ndk]
                wtm_at "sn"
                rename_i pT H37 D37 hI37 x37 eT
                have reT : Rep D37 (.ref pT) (toldD (ss.map (·.1)) (mOf ts)) := .dict eT (repK_told ekv fun e he k hk => let ⟨q, a, c⟩ := hkv36 e he k hk; ⟨q, a, c.mono x37⟩)
                have ksS : ss.map (·.1) = ksOf (mOf ts) ws.length := ksOf_eq tl1h (by rw [List.pairwise_map]; exact ssr) ssn fun k => ⟨fun h => by
                  obtain ⟨t, ht, rfl⟩ := List.mem_map.mp h
                  rw [mOf_yes tnd (ssp.mem_iff.mp ht)]
                  rfl, fun h => by
                  by_cases hc : ∃ t ∈ ts, k = t.1
                  · obtain ⟨t, ht, rfl⟩ := hc
                    exact List.mem_map.mpr ⟨t, ssp.mem_iff.mpr ht, rfl⟩
                  · rw [mOf_no fun t ht e => hc ⟨t, ht, e⟩] at h
                    cases h⟩
                rw [ksS] at reT
                have smT := sm_told tl1h (ksOf_mem tl1h) (by omega) (show (ksOf (mOf ts) ws.length).length ≤ 60 by
                  unfold ksOf
                  refine Nat.le_trans (List.length_filter_le _ _) ?_
                  rw [List.length_map, List.length_range]
                  omega)
                have eah37 := x37 _ _ eah
                wtm_at "sn"
                refine ytold_use hI37 (iy1h.mono x37) (by simp) (tl1h.mono x37) (fun p38 ks kvs38 H38 D38 hI38 x38 e38 t38 ek38 hp38 hn38 hin38 => ?_)
                have eks := ksOf_eq tl1h hp38 hn38 hin38
                have re1 := t38.repD e38 ek38 hn38
                rw [eks] at re1
                wtm_at "sn"
                refine repr_sm (hI38.rep re1) smT (by decide) (by decide) ?_
                wtm_at "sn"
                refine repr_sm (hI38.rep (reT.mono x38)) smT (by decide) (by decide) ?_
                refine .b (rne_same ?_)
                have x2638 := x2636.trans (x37.trans x38)
                have iy5i := iy5g.mono x2638
                wtm_at "sn"
                refine lall_use hI38 iy5i (by simp) (toldAg.mono x2638) (fun H39 D39 hI39 x39 => ?_)
                rw [eKT]
                wtm_at "sn"
                refine .b (rne_same ?_)
                have x2639 := x2638.trans x39
                have iy1j := iy1g.mono x2639
                have tl1j := tl1g.mono x2639
                have etd39 := x2639 _ _ etd26
                have pvu39 := paired_mono (fun _ _ h => TriAt.mono h x2639) pvu26
                have hI40 : HI H39 ((td1, .dK kvs1) :: (td4, .dK kvs4) :: (b, bx x24 y24 z24) :: (td2, .dK kvs2) :: (td3, .dK []) :: (td5, .dK kvs) :: R) D39 := HI.front (A := [_, _, _]) hI39
                wtm_at "sn"
                refine for_lst (xs := vu) (fun j σ R' D' => ∃ (kv : List (Key × V)) (f9 f10 f11 : Option V), σ = [some (.ref b), some (.ref wl), some (.int ws.length), some (.ref Lr), some (.ref ya), some (.ref yb), some (.ref yc), some (.int A), some (.ref ptd), f9, f10, f11, some (.ref yd), some (.ref ye), some (.str KT), c15, c16, some (.str DT), some (.ref pT), none] ∧ R' = (td1, .dK kv) :: (td4, .dK kvs4) :: (b, bx x24 y24 z24) :: (td2, .dK kvs2) :: (td3, .dK []) :: (td5, .dK kvs) :: R ∧ Ex D39 D' ∧ Told D' kv (mOf (us.drop j)) ws.length) hI40 ⟨kvs1, _, _, _, rfl, rfl, Ex.refl _, by rw [List.drop_zero, mOf_perm pus und]; exact tl1j⟩ (fun j σ R' D' q => ?_) (fun j v σ R' D' H' hv hI' q => ?_) (fun σ R' D' H' hI' q => ?_)
                · obtain ⟨_, _, _, _, _, _, q, _⟩ := q
                  exact q _ _ etd39
                · obtain ⟨kv, f9, f10, f11, rfl, rfl, xq3, told3⟩ := q
                  obtain ⟨t, ht, pq, rfl, ept⟩ := paired_get pvu39 hv
                  have hj := (List.getElem?_eq_some_iff.mp hv).1
                  have eptq := xq3 _ _ ept
                  have iyq := iy1j.mono xq3
                  obtain ⟨⟨dxq, eaq⟩, _⟩ := id iyq
                  obtain ⟨t1, t2, tw⟩ := uok t (List.mem_of_getElem? ht)
                  obtain ⟨hlt, hgt⟩ := List.getElem?_eq_some_iff.mp ht
                  have ed : us.drop j = t :: us.drop (j + 1) := by
                    rw [List.drop_eq_getElem_cons hlt, hgt]
                  have ndd : ((us.drop j).map (·.1)).Nodup := und.sublist ((List.drop_sublist _ _).map _)
                  rw [ed] at told3 ndd
                  rw [List.map_cons, List.nodup_cons] at ndd
                  wtm_at "sn"
                  refine back_use (k := t.1) hI' iyq told3 t1 t2 (by unfold mOf; rw [List.find?_cons, decide_eq_true rfl]; rfl) (fun kvs2' H7 hI7 t7 => ?_)
                  rw [mOf_back ndd.1] at t7
                  wtm_at "sn"
                  exact ⟨_, _, hI7, _, _, _, _, rfl, rfl, xq3, t7⟩
                · obtain ⟨kv, f9, f10, f11, rfl, rfl, xq3, told3⟩ := q
                  rw [List.drop_of_length_le (by omega)] at told3
                  have told4 : Told D' kv (fun _ => none) ws.length := told3
                  have x2640 := x2639.trans xq3
                  have iy1k := iy1g.mono x2640
                  have iy2k := iy2g.mono x2640
                  have iy3k := iy3g.mono x2640
                  have iy5k := iy5g.mono x2640
                  have tl2k := tl2g.mono x2640
                  have toldAk := toldAg.mono x2640
                  have ew40 := x2640 _ _ ew26
                  have pl40 := pl26.mono x2640
                  have x040 := x026.trans x2640
                  clear hI27 hI28 hI30 hI31 hI32 hI33 hI34 hI36 hI37 hI38 hI39 hI40 yr1 yr2 yr4
                  wtm_at "sn"
                  refine lall_use hI' iy1k (by simp) told4 (fun H41 D41 hI41 x41 => ?_)
                  wtm_at "sn"
                  refine lall_use hI41 (iy3k.mono x41) (by simp) t0 (fun H42 D42 hI42 x42 => ?_)
                  refine .b (rne_same ?_)
                  have x4042 := x41.trans x42
                  have yra := (iy1k.mono x4042).at (R := (td1, .dK kv) :: (td4, .dK kvs4) :: (b, bx x24 y24 z24) :: (td2, .dK kvs2) :: (td3, .dK []) :: (td5, .dK kvs) :: R) (by simp) (told4.mono x4042)
                  have yrc := (iy3k.mono x4042).at (R := (td1, .dK kv) :: (td4, .dK kvs4) :: (b, bx x24 y24 z24) :: (td2, .dK kvs2) :: (td3, .dK []) :: (td5, .dK kvs) :: R) (by simp) t0
                  wtm_at "sn"
                  refine eqY_year T hI42 yra yrc (fun H43 D43 hI43 x43 => ?_)
                  rw [decide_eq_true rfl]
                  wtm_at "sn"
                  have x4043 := x4042.trans x43
                  refine lall_use hI43 (iy2k.mono x4043) (by simp) (tl2k.mono x4043) (fun H44 D44 hI44 x44 => ?_)
                  rw [eDT]
                  wtm_at "sn"
                  refine .b (rne_same ?_)
                  have x4044 := x4043.trans x44
                  have yrc44 := yrc.mono (x43.trans x44)
                  obtain ⟨nlc, tdc, dxc, ecc⟩ := yrc44.ins
                  wtm_at "sn"
                  refine yweeks_use hI44 yrc44 (fun p45 xs45 H45 D45 hI45 x45 pl45 => ?_)
                  rw [show ((ws.length : Nat) : Int).toNat = ws.length by omega, stand_none] at pl45
                  obtain ⟨D46, hI46, x46, e46⟩ := hI45.fr1
                  have smW := sm_pairs wo (by omega)
                  wtm_at "sn"
                  refine repr_sm (hI46.rep (.lst e46 (rep_pairs (pl45.mono x46)))) smW (by decide) (by decide) ?_
                  have x4046 := x4044.trans (x45.trans x46)
                  wtm_at "sn"
                  refine repr_sm (hI46.rep (.lst (x4046 _ _ ew40) (rep_pairs (pl40.mono x4046)))) smW (by decide) (by decide) ?_
                  refine .b (req_same ?_)
                  wtm_at "sn"
                  refine lall_use hI46 (iy5k.mono x4046) (by simp) (toldAk.mono x4046) (fun H47 D47 hI47 x47 => ?_)
                  rw [eKT]
                  wtm_at "sn"
                  refine .b (req_same ?_)
                  wtm_at "sn"
                  exact go _ _ hI47.drop.drop.drop.drop.drop.drop (x040.trans (x4046.trans x47))
def spLaw : Sp := fun vs H Q _ => ∃ (l : Addr) (o : Obj) (ns : List Int) (R : Cells) (D : Hp), vs = [.ref l] ∧ HI H R D ∧ D l = some (.frz o (.lst (ns.map V.int))) ∧ ∀ H', Q (.bl true) H'
set_option maxHeartbeats 1000000 in
theorem ok_law {P : Program} {w : World} {K : PySem.W.Frag} {mg : Str → Option Value} {base : Heap} (T : Tx K mg) : FnG P w K mg base 8 (a_law K) ["script"] spLaw := by
  refine T.f_law.ok sc_law (fun vs H Q E h => ?_) (fun cdv A outer s H vs Q E hgu hr h => ⟨_, (pss_cons (ps_for (passes_of rfl) rfl (pi_range1 rfl T.n_range (pa_cons (pe_callB (call_maxU rfl) (by rfl) T.n_max boot_max (pa_cons pe_int (pa_cons (pe_callB (call_minU rfl) (by rfl) T.n_min boot_min (pa_cons pe_int (pa_cons (pe_callB (call_lenU) (by rfl) T.n_len boot_len (pa_cons (pv 0) pa_nil)) pa_nil))) pa_nil))) pa_nil)) (pg_name (i := 1) sc_law.nd rfl (Or.inl rfl)) (pss_one (ps_if (pt_not (pt_val (ge_call (ok_l_right T) hgu (hr.mono (by decide)) rfl T.g_l_right T.k_l_right T.b_l_right .nil (fun _ => pass_takes (takes_of rfl rfl rfl rfl)) (pa_cons (ge_call (ok_l_box T) hgu (hr.mono (by decide)) rfl T.g_l_box T.k_l_box T.b_l_box .nil (fun _ => pass_takes (takes_of rfl rfl rfl rfl)) (pa_cons (ge_call (ok_l_cell T) hgu (hr.mono (by decide)) rfl T.g_l_cell T.k_l_cell T.b_l_cell .nil (fun _ => pass_takes (takes_of rfl rfl rfl rfl)) (pa_cons (pv 0) (pa_cons (pv 1) pa_nil))) pa_nil)) pa_nil)))) (pss_one (ps_ret pe_bl)) pss_nil)))
 (pss_one (ps_ret pe_bl))), ?_⟩)
  · obtain ⟨l, o, ns, R, D, rfl, _⟩ := h
    rfl
  · obtain ⟨l, o, ns, R, D, rfl, hI, hl, go⟩ := h
    wtm_at "go"
    wtm_at "sn"
    refine for_rng (fun i σ R' D' => ∃ a1 : Option V, σ = [some (.ref l), a1] ∧ R' = R ∧ Ex D D') hI ⟨_, rfl, rfl, Ex.refl _⟩ (fun i σ R' D' H' hi hI' p => ?_) (fun σ R' D' H' hI' p => ?_)
    · obtain ⟨a1, rfl, hRR, x⟩ := p
      rw [hRR] at hI'
      wtm_at "sn"
      refine cell_now hI' (by wtm_at "dat") (by omega) (by omega) (fun c H5 hI5 => ?_)
      wtm_at "sn"
      refine box_now hI5 (fun b xx yy H6 hI6 bo6 => ?_)
      wtm_at "sn"
      refine ⟨b, R, D', xx, yy, 0, 0, rfl, hI6, bo6, by decide, fun H7 D7 hI7 x7 => ?_⟩
      wtm_at "sn"
      exact ⟨_, _, hI7, _, rfl, rfl, x.trans x7⟩
    · obtain ⟨a1, rfl, hRR, x⟩ := p
      wtm_at "sn"
      exact go _
end Wk
set_option maxRecDepth 100000
set_option maxHeartbeats 0
namespace Wk
open PySem PySem.Spec PyProof.Rows L2
theorem law_hc {q : Program} {loose : List Str} {XP : (Str → Option Value) → Heap → Prop} {d : DefRec} (hdf : d.params.defaults = []) (hnm : d.name = "law") : PySem.W.WalkO q loose XP hk.says (PySem.W.OpenLaw.row PySem.Challenge.rw_weekheads_k13_whole_told_in_any_order).toRowW d [] (fun f vs => PySem.call f vs) := by
  refine law_endG (l := PySem.Challenge.rw_weekheads_k13_whole_told_in_any_order) (n := 63) (k := 8) (x := "script") rfl (by decide) hdf ⟨rfl, by decide, by decide⟩ (fun w mg fa h Y G hmg => ?_)
  obtain ⟨K, X, c⟩ := Y
  have T : Tx K mg := ⟨c, h, X, G⟩
  rw [hnm] at hmg
  have e := hmg.symm.trans T.g_law
  cases e
  exact ⟨K, spLaw, X, T.nol, fun s u => FunD.bindsA (ps := ["script"]) T.f_law (fun _ _ _ _ _ _ us hl => match us, hl with | [_], _ => rfl) s [u] rfl, fun H a o ns hl hI ha => ⟨a, o, ns, [], H, rfl, hI, ha, fun _ => rfl⟩, fun base _ _ => ok_law T⟩
end Wk
theorem PySem.Challenge.cw_weekheads_k13_whole_told_in_any_order_holds : PySem.Challenge.rw_weekheads_k13_whole_told_in_any_order.Holds := by
  exact Wk.lawFin fun h1 h2 => Wk.law_hc h1 h2
