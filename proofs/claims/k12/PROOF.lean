import PyProof.Rows.All
import Wide.All
import OpenK.AllK
import Wide.FinOn
import KE.KStateDown
import HandS.ForExc
import HandS.Defaults
import HandS.Head0
import HandS.Head1
import HandS.Head2
import HandS.HeadEnd
import HandS.HeadHook1
import HandS.HeadHook2
import HandS.ForMost
import HandS.Wide
import HandS.IsInst
import HandS.Flow
import HandS.Evl
import PyProof.ReprRoads
import PyProof.CallFns
import HandS.Text
import HandS.Walk
import HandS.ExcInit
import HandS.ExcIs
import HandS.ExcOwn
import HandS.TryMany
import KE.KExcInit
import HandS.MakeKwOnly
import KE.KCallOwn
import OpenK.KOps
import HandS.FStr
import PyProof.ExcRepr
import PyProof.ExcReprCall
import HandS.NamedTupSort
import PyProof.StrLawsRepr
import PyProof.ReprLen
import PyProof.StrLawsChain
import PyProof.StrLawsTight
import HandS.StrMore
import HandS.WordsDict
import HandS.More
import PyProof.NeKinds
import HandS.Style
import PyProof.EqKinds
import PyProof.MeetsIn
import HandS.SortKw
import KE.GoesEnumKw
import HandS.OwnEq
import KE.KFmtOwn
import HandS.Conv
import KE.SortData
import PySem.Challenge.RW_weekheads_k12_years_refused
set_option Elab.async false
set_option linter.all false
set_option maxRecDepth 100000
set_option maxHeartbeats 4000000
namespace WA
open PySem PySem.Spec PyProof.Rows L2
/-- a name's value in a namespace, for picking alone -/
def nm (g : Addr → Option Obj) (n : Addr) (x : Str) : Option Value := (g n).bind fun o => match o.data with
  | .dict es _ => (es.toList.find? fun e => e.key.isStr x).map fun e => e.val
  | _ => none
def ad : Option Value → Addr
  | some (.ref a) => a
  | _ => 0
def adV : Value → List Addr
  | .ref a => [a]
  | _ => []
def nsOf (g : Addr → Option Obj) (C : Addr) : Addr := match g C with
  | some o => (match o.data with
    | .cls cd => cd.ns
    | _ => 0)
  | none => 0
def fnOf (g : Addr → Option Obj) (f : Addr) : List Addr := match g f with
  | some o => (match o.data with
    | .func fd => f :: (adV fd.code ++ adV fd.defaults)
    | _ => [f])
  | none => []
def atOf (g : Addr → Option Obj) (p : Str × Option Str) : Addr := match p.2 with
  | none => ad (nm g mainGlobals p.1)
  | some m => ad (nm g (nsOf g (ad (nm g mainGlobals p.1))) m)
/-- the objects that are looked at: the module's names, the classes, the defs -/
def pick (g : Addr → Option Obj) (cs : List Str) (fs : List (Str × Option Str)) : List Addr :=
  mainGlobals :: sysModules :: cStatics :: ((cs.flatMap fun x => [ad (nm g mainGlobals x), nsOf g (ad (nm g mainGlobals x))]) ++ fs.flatMap fun p => fnOf g (atOf g p))
/-- a list is laid open ahead of what follows -/
def openL {α : Type} : PySem.W.Frag → (PySem.W.Frag → α) → α
  | [], k => k []
  | (a, o) :: r, k => HandSHeadRun.frNat a fun a => openL r fun r => k ((a, o) :: r)
theorem openL_eq {α : Type} : ∀ (K : PySem.W.Frag) (k : PySem.W.Frag → α), openL K k = k K
  | [], k => rfl
  | (a, o) :: r, k => by
    show HandSHeadRun.frNat a (fun a => openL r fun r => k ((a, o) :: r)) = _
    rw [HandSHeadRun.frNat_eq, openL_eq r]
abbrev Fx := PySem.W.Frag → Bool
abbrev AlX : Type := Bool × List He.FnW
def obsX (fx : List Fx) (fn : List He.DefD) (K : PySem.W.Frag) : AlX := ((fx.all fun f => f K) && fn.all fun d => d.ok K, fn.map fun d => He.fnW K d.at_)
def valX (fn : List He.DefD) : AlX := (true, fn.map He.DefD.val)
def SaysX (fx : List Fx) (fn : List He.DefD) (K : PySem.W.Frag) : Prop := obsX fx fn K = valX fn
def obsXG (cs : List Str) (fx : List Fx) (fn : List He.DefD) (g : Addr → Option Obj) : AlX := openL (He.frG g (pick g cs (fn.map fun d => d.at_))) fun K => obsX fx fn K
def hookX (cs : List Str) (fx : List Fx) (fn : List He.DefD) : PySem.W.Hook where
  α := AlX
  obs := fun s => obsXG cs fx fn s.heap.get?
  val := fun _ => valX fn
  says := fun _ h => ∃ K : PySem.W.Frag, K.In h ∧ SaysX fx fn K
  of := fun _ _ e => ⟨_, He.frG_in, by
    unfold obsXG at e
    rw [openL_eq] at e
    exact e⟩
  keeps := fun _ _ _ ⟨K, X, c⟩ k => ⟨K, X.keeps k, c⟩
theorem obsXG_eq {cs : List Str} {fx : List Fx} {fn : List He.DefD} {g : Addr → Option Obj} {s : Shared} (h : ∀ a, g a = s.heap.get? a) : obsXG cs fx fn g = (hookX cs fx fn).obs s := by
  have e : g = s.heap.get? := funext h
  rw [e]
  rfl
section
variable {fx : List Fx} {fn : List He.DefD} {K : PySem.W.Frag}
theorem SaysX.two (c : SaysX fx fn K) : (∀ f ∈ fx, f K = true) ∧ (∀ d ∈ fn, d.ok K = true) ∧ fn.map (fun d => He.fnW K d.at_) = fn.map He.DefD.val := by
  have c1 : ((fx.all fun f => f K) && fn.all fun d => d.ok K) = true := congrArg Prod.fst c
  have c2 : fn.map (fun d => He.fnW K d.at_) = fn.map He.DefD.val := congrArg Prod.snd c
  obtain ⟨a, b⟩ := He.ba c1
  exact ⟨List.all_eq_true.mp a, List.all_eq_true.mp b, c2⟩
theorem SaysX.fact (c : SaysX fx fn K) (i : Nat) {f : Fx} (h : fx[i]? = some f := by rfl) : f K = true := c.two.1 f (List.mem_of_getElem? h)
theorem SaysX.def_ (c : SaysX fx fn K) (i : Nat) {d : He.DefD} (h : fn[i]? = some d := by rfl) : ∃ fd, FunD K d.name d.qual d.params d.body d.scope (d.dvs K) (d.kws K) (He.fAd K d.at_) fd := by
  obtain ⟨_, b, e⟩ := c.two
  have e1 : (fn.map fun d => He.fnW K d.at_)[i]? = (fn.map He.DefD.val)[i]? := by rw [e]
  rw [List.getElem?_map, List.getElem?_map, h] at e1
  exact He.DefD.funD (Option.some.inj e1) (b d (List.mem_of_getElem? h))
end
end WA
set_option maxRecDepth 100000
set_option maxHeartbeats 4000000
namespace Wk
open PySem PySem.Spec PyProof.Rows L2
structure HI (H : Hp) (R : List (Addr × HO)) (D : Hp) : Prop where
  nd : (R.map (·.1)).Nodup
  cell : ∀ p ∈ R, H p.1 = some p.2 ∧ D p.1 = none
  sub : ∀ a o, D a = some o → H a = some o
/-- more data -/
def Ex (D D' : Hp) : Prop := ∀ a o, D a = some o → D' a = some o
theorem Ex.refl (D : Hp) : Ex D D := fun _ _ h => h
theorem Ex.trans {D D1 D2 : Hp} (a : Ex D D1) (b : Ex D1 D2) : Ex D D2 := fun x o h => b x o (a x o h)
theorem Ex.new {D : Hp} {p : Addr} {o : HO} (h : D p = none) : Ex D (upd D p o) := fun a u e => by
  rw [upd_ne (ne_of_none e h)]
  exact e
section
variable {H D : Hp} {R : List (Addr × HO)} {a p : Addr} {o u : HO} {x y z : Addr × HO}
theorem HI.get (h : HI H R D) (m : (a, o) ∈ R) : H a = some o := (h.cell _ m).1
theorem HI.dat (h : HI H R D) (d : D a = some o) : H a = some o := h.sub a o d
theorem HI.free (h : HI H R D) (hp : H p = none) : D p = none := by
  cases q : D p with
  | none => rfl
  | some w =>
    rw [h.sub p w q] at hp
    cases hp
theorem HI.notin (h : HI H R D) (hp : H p = none) : p ∉ R.map (·.1) := fun m => by
  obtain ⟨q, hq, e⟩ := List.mem_map.mp m
  have := (h.cell q hq).1
  rw [e, hp] at this
  cases this
/-- a new cell -/
theorem HI.new (h : HI H R D) (hp : H p = none) : HI (upd H p o) ((p, o) :: R) D := by
  have nm := h.notin hp
  refine ⟨by rw [List.map_cons]; exact List.nodup_cons.mpr ⟨nm, h.nd⟩, fun q hq => ?_, fun b w e => ?_⟩
  · rcases List.mem_cons.mp hq with e | hq
    · rw [e]
      exact ⟨upd_same, h.free hp⟩
    · have ne : q.1 ≠ p := fun e => nm (List.mem_map.mpr ⟨q, hq, e⟩)
      rw [upd_ne ne]
      exact h.cell q hq
  · rw [upd_ne (ne_of_none (h.sub b w e) hp)]
    exact h.sub b w e
/-- new data -/
theorem HI.newD (h : HI H R D) (hp : H p = none) : HI (upd H p o) R (upd D p o) := by
  have nm := h.notin hp
  refine ⟨h.nd, fun q hq => ?_, fun b w e => ?_⟩
  · have ne : q.1 ≠ p := fun e => nm (List.mem_map.mpr ⟨q, hq, e⟩)
    rw [upd_ne ne, upd_ne ne]
    exact h.cell q hq
  · by_cases e2 : b = p
    · rw [e2, upd_same] at e ⊢
      exact e
    · rw [upd_ne e2] at e ⊢
      exact h.sub b w e
/-- a cell is changed -/
theorem HI.set (h : HI H ((a, o) :: R) D) : HI (upd H a u) ((a, u) :: R) D := by
  have nd : a ∉ R.map (·.1) := (List.nodup_cons.mp h.nd).1
  refine ⟨h.nd, fun q hq => ?_, fun b w e => ?_⟩
  · rcases List.mem_cons.mp hq with e | hq
    · rw [e]
      exact ⟨upd_same, (h.cell (a, o) (List.mem_cons_self ..)).2⟩
    · have ne : q.1 ≠ a := fun e => nd (List.mem_map.mpr ⟨q, hq, e⟩)
      rw [upd_ne ne]
      exact h.cell q (List.mem_cons_of_mem _ hq)
  · have ne : b ≠ a := fun e2 => by
      rw [e2, (h.cell (a, o) (List.mem_cons_self ..)).2] at e
      cases e
    rw [upd_ne ne]
    exact h.sub b w e
/-- a cell becomes data -/
theorem HI.freeze (h : HI H ((a, o) :: R) D) : HI H R (upd D a o) := by
  have nd : a ∉ R.map (·.1) := (List.nodup_cons.mp h.nd).1
  refine ⟨(List.nodup_cons.mp h.nd).2, fun q hq => ?_, fun b w e => ?_⟩
  · have ne : q.1 ≠ a := fun e => nd (List.mem_map.mpr ⟨q, hq, e⟩)
    rw [upd_ne ne]
    exact h.cell q (List.mem_cons_of_mem _ hq)
  · by_cases e2 : b = a
    · rw [e2, upd_same] at e
      cases e
      rw [e2]
      exact (h.cell (a, o) (List.mem_cons_self ..)).1
    · rw [upd_ne e2] at e
      exact h.sub b w e
theorem HI.freezeX (h : HI H ((a, o) :: R) D) : Ex D (upd D a o) := Ex.new (h.cell (a, o) (List.mem_cons_self ..)).2
/-- forgetting a cell -/
theorem HI.drop (h : HI H (x :: R) D) : HI H R D := ⟨(List.nodup_cons.mp h.nd).2, fun q hq => h.cell q (List.mem_cons_of_mem _ hq), h.sub⟩
theorem HI.perm {R' : List (Addr × HO)} (h : HI H R D) (p : R.Perm R') : HI H R' D :=
  ⟨(p.map (·.1)).nodup_iff.mp h.nd, fun q hq => h.cell q (p.mem_iff.mpr hq), h.sub⟩
theorem HI.swap (h : HI H (x :: y :: R) D) : HI H (y :: x :: R) D := h.perm (List.Perm.swap ..)
theorem HI.up2 (h : HI H (x :: y :: z :: R) D) : HI H (z :: x :: y :: R) D := h.perm (by
  refine List.Perm.trans (List.Perm.cons x (List.Perm.swap z y R)) ?_
  exact List.Perm.swap z x (y :: R))
theorem HI.dn2 (h : HI H (x :: y :: z :: R) D) : HI H (y :: z :: x :: R) D := h.perm (by
  refine List.Perm.trans (List.Perm.swap y x (z :: R)) ?_
  exact List.Perm.cons y (List.Perm.swap z x R))
theorem HI.set2 (h : HI H (x :: (a, o) :: R) D) : HI (upd H a u) (x :: (a, u) :: R) D := h.swap.set.swap
theorem HI.set3 (h : HI H (x :: y :: (a, o) :: R) D) : HI (upd H a u) (x :: y :: (a, u) :: R) D := h.up2.set.dn2
end
/-- a new object, data from now on; a new cell -/
def AlD (o : HO) (H : Hp) (Q : VK) : Prop := ∀ p, H p = none → Q (.ref p) (upd H p o)
def AlM (o : HO) (H : Hp) (Q : VK) : Prop := ∀ p, H p = none → Q (.ref p) (upd H p o)
theorem al_D {H D : Hp} {R : List (Addr × HO)} {o : HO} {Q : VK} (h : HI H R D) (k : ∀ p H' D', HI H' R D' → Ex D D' → D' p = some o → Q (.ref p) H') : AlD o H Q :=
  fun p hp => k p _ _ (h.newD hp) (Ex.new (h.free hp)) upd_same
theorem al_M {H D : Hp} {R : List (Addr × HO)} {o : HO} {Q : VK} (h : HI H R D) (k : ∀ p H', HI H' ((p, o) :: R) D → Q (.ref p) H') : AlM o H Q :=
  fun p hp => k p _ (h.new hp)
theorem HI.up3 {H D : Hp} {R : List (Addr × HO)} {x y z u : Addr × HO} (h : HI H (x :: y :: z :: u :: R) D) : HI H (u :: x :: y :: z :: R) D := h.perm (by
  refine List.Perm.trans (List.Perm.cons x (List.Perm.cons y (List.Perm.swap u z R))) ?_
  refine List.Perm.trans (List.Perm.cons x (List.Perm.swap u y (z :: R))) ?_
  exact List.Perm.swap u x (y :: z :: R))
section
variable {K : PySem.W.Frag} {σ : L2.St} {H : Hp} {Q : VK} {ta tb tc te : TE} {D : Ends} {t u : TS} {tt tt2 : TT} {QB : Bool → Hp → Prop}
theorem st_seq (h : t { D with nx := u D } σ H) : tSeq t u D σ H := h
theorem st_asg {g : TG} (h : te σ H fun x H1 => g x σ H1 D.nx) : tAsg te g D σ H := h
theorem st_ret (h : te σ H D.rt) : tRet te D σ H := h
theorem st_if (h : tt σ H fun b H1 => if b = true then t D σ H1 else u D σ H1) : tIfS tt t u D σ H := h
theorem st_drop (h : te σ H fun _ H1 => D.nx σ H1) : tDrop te D σ H := h
theorem st_next (h : D.nx σ H) : tNext D σ H := h
theorem st_brk (h : D.bk σ H) : tBreak D σ H := h
theorem st_cont (h : D.ct σ H) : tCont D σ H := h
theorem sg_name {i : Nat} {v : V} {N : L2.St → Hp → Prop} (h : N (σ.set i (some v)) H) : gName i v σ H N := h
theorem sg_sub {to ti : TE} {s : TSet} {v : V} {N : L2.St → Hp → Prop} (h : to σ H fun o H1 => ti σ H1 fun i H2 => s o i v H2 fun H3 => N σ H3) : gSub to ti s v σ H N := h
theorem sg_tup {n : Nat} {gs : TGs} {a : Addr} {xs : List V} {N : L2.St → Hp → Prop} (hx : SqT K H a xs) (hl : xs.length = n) (h : gs xs σ H N) : gTup K n gs (.ref a) σ H N := ⟨a, xs, rfl, hx, hl, h⟩
theorem sg_nil {N : L2.St → Hp → Prop} (h : N σ H) : gNil [] σ H N := ⟨rfl, h⟩
theorem sg_cons {g : TG} {gs : TGs} {v : V} {r : List V} {N : L2.St → Hp → Prop} (h : g v σ H fun σ' H' => gs r σ' H' N) : gCons g gs (v :: r) σ H N := ⟨v, r, rfl, h⟩
theorem se_var {i : Nat} {v : V} (e : σ[i]? = some (some v)) (h : Q v H) : tVar i σ H Q := ⟨v, e, h⟩
theorem se_c {v : V} (h : Q v H) : tC v σ H Q := h
theorem se_op {r : R2} (h : ta σ H fun x H1 => tb σ H1 fun y H2 => r x y H2 Q) : tOp r ta tb σ H Q := h
theorem se_un {r : V → Hp → VK → Prop} (h : ta σ H fun x H1 => r x H1 Q) : tUn r ta σ H Q := h
theorem se_tup {t : TA} (h : t σ H fun xs H1 => xs.length ≤ sizeLine ∧ AlD (.tup xs) H1 Q) : tTup t σ H Q := h
theorem se_lst {t : TA} (h : t σ H fun xs H1 => xs.length ≤ sizeLine ∧ AlD (.lst xs) H1 Q) : tLst t σ H Q := h
/-- a list that will change -/
def tLstM (t : TA) : TE := tLst t
theorem se_lstM {t : TA} (h : t σ H fun xs H1 => xs.length ≤ sizeLine ∧ AlM (.lst xs) H1 Q) : tLstM t σ H Q := h
theorem sa_nil {N : List V → Hp → Prop} (h : N [] H) : tNil σ H N := h
theorem sa_cons {t : TA} {N : List V → Hp → Prop} (h : te σ H fun x H1 => t σ H1 fun xs H2 => N (x :: xs) H2) : tCons te t σ H N := h
theorem se_cb {r : List V → Hp → VK → Prop} {t : TA} (h : t σ H fun vs H1 => r vs H1 Q) : tCB r t σ H Q := h
theorem se_if (h : tt σ H fun b H1 => if b = true then ta σ H1 Q else tb σ H1 Q) : tIf tt ta tb σ H Q := h
theorem st_test (h : te σ H fun x H1 => ∃ k, x = .bl k ∧ QB k H1) : tTest te σ H QB := h
theorem st_B (h : te σ H fun x H1 => ∃ k, x = .bl k ∧ QB k H1) : tB te σ H QB := h
theorem st_bl {k : Bool} {N : Bool → Prop} (h : N k) : ∃ k', (V.bl k) = .bl k' ∧ N k' := ⟨k, rfl, h⟩
theorem st_and (h : tt σ H fun c H1 => if c = true then tt2 σ H1 QB else QB false H1) : tAnd tt tt2 σ H QB := h
theorem st_or (h : tt σ H fun c H1 => if c = true then QB true H1 else tt2 σ H1 QB) : tOr tt tt2 σ H QB := h
theorem st_not (h : tt σ H fun c H1 => QB (!c) H1) : tNot tt σ H QB := h
theorem ri_mk {C : Int → Int → Prop} {g : Int → Int → V} {i j : Int} (c : C i j) (h : Q (g i j) H) : rI C g (.int i) (.int j) H Q := ⟨i, j, rfl, rfl, c, h⟩
theorem ri0_mk {g : Int → Int → V} {i j : Int} (h : Q (g i j) H) : rI0 g (.int i) (.int j) H Q := ⟨i, j, rfl, rfl, h⟩
end
theorem if_dec {c A B : Prop} [Decidable c] (h1 : c → A) (h2 : ¬ c → B) : if decide c = true then A else B := by
  by_cases h : c
  · rw [if_pos (decide_eq_true h)]
    exact h1 h
  · rw [if_neg (by rw [decide_eq_false h]; decide)]
    exact h2 h
theorem if_yes {c A B : Prop} [Decidable c] (h : c) (a : A) : if decide c = true then A else B := by
  rw [if_pos (decide_eq_true h)]
  exact a
theorem if_no {c A B : Prop} [Decidable c] (h : ¬ c) (b : B) : if decide c = true then A else B := by
  rw [if_neg (by rw [decide_eq_false h]; decide)]
  exact b
theorem if_yesN {c A B : Prop} [Decidable c] (h : c) (b : B) : if (!decide c) = true then A else B := by
  rw [decide_eq_true h]
  exact iteF b
theorem if_noN {c A B : Prop} [Decidable c] (h : ¬ c) (a : A) : if (!decide c) = true then A else B := by
  rw [decide_eq_false h]
  exact iteT a
theorem small_ok {n : Nat} (h : n ≤ 1000000) : n ≤ sizeLine := Nat.le_trans h (by rw [sizeLine_eq]; decide)
theorem and_on {A B : Prop} (a : A) (b : B) : A ∧ B := ⟨a, b⟩
end Wk
set_option maxRecDepth 100000
set_option maxHeartbeats 4000000
namespace Wk
open PySem PySem.Spec PyProof.Rows L2
/-- the function object that stands at f -/
def fdOf (K : PySem.W.Frag) (f : Addr) : FuncData := match K.lookup f with
  | some ⟨_, _, .func fd, _⟩ => fd
  | _ => PySem.W.fnOf "" "" { posonlyargs := [], args := [], vararg := none, kwonlyargs := [], kw_defaults := [], kwarg := none, defaults := [] } [] { kind := .function, names := [], isGenerator := false, isCoroutine := false } .none .none .none .none none .none .none
/-- a def of the text, as it stands behind the top -/
def FD (K : PySem.W.Frag) (x qual : Str) (st : Stmt) (dvs : List V) (f : Addr) : Prop := FunD K x qual (defArgs st) (defBody st) (defScope st) dvs [] f (fdOf K f)
theorem fd_of {K : PySem.W.Frag} {x qual : Str} {st : Stmt} {dvs : List V} {f : Addr} {fd : FuncData} (F : FunD K x qual (defArgs st) (defBody st) (defScope st) dvs [] f fd) : FD K x qual st dvs f := by
  obtain ⟨oc, od, dV, kV, doc, pm, an, cdv, ct, osl, e, lk, r⟩ := F.ex
  have q : fdOf K f = fd := by
    unfold fdOf
    rw [lk]
  unfold FD
  rw [q]
  exact F
/-- the promise: FnOk's, where no container is about to be shown around -/
structure FnG (P : Program) (w : World) (K : PySem.W.Frag) (mg : Str → Option Value) (base : Heap) (k : Nat) (f : Addr) (ps : List Str) (sp : Sp) : Prop where
  len : ∀ vs H Q E, sp vs H Q E → vs.length = ps.length
  run : ∀ (A : Around) (outer : List Env) (s : Shared) (H : Hp) (args : Args) (us : List Value) (vs : List V) (Q : VK) (E : XK), A.guards = some [] → Room k A → Env0 P w K mg base A outer s H →
    BindsTo s (fdOf K f) args (ps.zip us) → Vals vs us → sp vs H Q E → codeAny (model P w) A (.call (.ref f) args) (CR (L2.CX P w) outer P w H s Q E) s
theorem FnG.mono {P : Program} {w : World} {K : PySem.W.Frag} {mg : Str → Option Value} {base : Heap} {j k : Nat} {f : Addr} {ps : List Str} {sp : Sp} (F : FnG P w K mg base j f ps sp) (h : j ≤ k) : FnG P w K mg base k f ps sp :=
  ⟨F.len, fun A outer s H args us vs Q E hg hr => F.run A outer s H args us vs Q E hg (hr.mono h)⟩
section
variable {P : Program} {w : World} {K : PySem.W.Frag} {mg : Str → Option Value} {base : Heap}
theorem FD.ok {x qual : Str} {st : Stmt} {dvs : List V} {f : Addr} {N ps : List Str} {k : Nat} {sp : Sp} (F : FD K x qual st dvs f) (S : FnScope N ps (defScope st)) (len : ∀ vs H Q E, sp vs H Q E → vs.length = ps.length)
    (hbody : ∀ (cdv : Value) (A : Around) (outer : List Env) (s : Shared) (H : Hp) (vs : List V) (Q : VK) (E : XK), A.guards = some [] → Room k (A.deeper (envOfC qual (defScope st) s.heap.objs.size f cdv)) → sp vs H Q E →
      ∃ t, PSs (cxOf (L2.CX P w) P w K mg base N qual (defScope st) f cdv A outer s H E) (defBody st) t ∧ t { nx := fun _ H' => Q .non H', rt := Q } (start N vs) H) : FnG P w K mg base (k + 1) f ps sp := by
  obtain ⟨oc, od, dV, kV, doc, pm, an, cdv, ct, osl, efd, lk, hcd, _, _⟩ := FunD.ex F
  refine ⟨len, fun A outer s H args us vs Q E hgu hr e0 hb r hsp => ?_⟩
  have hl := len _ _ _ _ hsp
  have KX : K.In s.heap := e0.mod.kin.keeps fun b o e => (e0.bs b o e).1
  have lim : s.heap.NoLimit := e0.mod.nolimit.keeps fun b o e => (e0.bs b o e).1
  rw [efd] at lk hb
  have hk : ∀ y ∈ ps.zip us, (defScope st).names.lookup y.1 = some .local ∨ ((defScope st).names.lookup y.1 = some .cell ∧ ((cellsFrom (s.heap.objs.size + 1) (defScope st).names []).lookup y.1).isSome = true) := fun ⟨n, v⟩ hy => by
    rcases S.par n (List.of_mem_zip hy).1 with q | q
    · exact .inl q
    · exact .inr ⟨q, PySem.W.cellsFrom_some _ _ _ (.inl q)⟩
  refine codeAny_call_function hr.depth (KX _ _ lk) rfl S.co S.gen rfl (PySem.W.codeRec_of KX hcd) (hb _ _ _ _ ?_)
  refine wpAny_newFunctionEnv_cells S.kind hk fun env he s1 x => ?_
  subst he
  refine ⟨lim.keeps x.toInCall.keep, codeAny_func ?_⟩
  obtain ⟨t, ht, hq⟩ := hbody cdv A outer s H vs Q E hgu (hr.deeper _) hsp
  have I : Inv (cxOf (L2.CX P w) P w K mg base N qual (defScope st) f cdv A outer s H E) [] (start N vs) H s1 := inv_start S hr.hd e0 hl r x
  refine wpAny_mono (ht.run [] s1 (start N vs) H _ I hq) (fun fl s' hs => ?_) fun e s' hs => hs
  cases fl with
  | ret u =>
    obtain ⟨v, σ', H', J, rv, q⟩ := hs
    exact ⟨v, H', J.os, J.bare, J.base, J.hok, rv, q⟩
  | next =>
    obtain ⟨σ', H', J, q⟩ := hs
    exact ⟨V.non, H', J.os, J.bare, J.base, J.hok, rfl, q⟩
  | brk =>
    obtain ⟨_, _, _, q⟩ := hs
    exact False.elim q
  | cont =>
    obtain ⟨_, _, _, q⟩ := hs
    exact False.elim q
end
/-- what a callee lets out is taken at the caller's slots -/
def PassG (X : Cx) (σ : L2.St) (E : XK) : Prop := ∀ (pins : List (Addr × Obj)) (H : Hp) (s : Shared) (e : Value) (s' : Shared), Inv X pins σ H s → L2.CX X.prog X.w X.stack H s E e s' → X.xe e s'
theorem pass_none {X : Cx} {σ : L2.St} : PassG X σ E0 := fun _ _ _ _ _ _ h => by
  obtain ⟨_, _, _, _, _, _, _, _, _, _, _, _, z⟩ := h
  exact z.elim
theorem pass_takes {X : Cx} {W : L2.WX} {σ : L2.St} (tk : Takes X W) : PassG X σ (fun cls d H => W cls d σ H) :=
  fun _ _ _ e s' I c => tk e s' (XE.of_call I (fun _ _ _ h => h) c)
section
variable {X : Cx} {k : Nat} {f C : Addr} {ps ks : List Str} {sp : Sp} {dvs : List V} {ds : List Value} {E : L2.St → XK} {x m : Str} {p pos apos : Pos} {e o : Expr} {es : List Expr} {ta : TE} {t tk : TA} {kws : List Keyword}
theorem run_fnG {pins : List (Addr × Obj)} {σ : L2.St} {H : Hp} {s : Shared} {Q : VK} {us : List Value} {kw : List (Str × Value)} {ws : List Value} {zs : List V} (F : FnG X.prog X.w X.K X.mg X.base k f ps sp) (hgu : X.A.guards = some []) (hr : Room k X.A)
    (hx : PassG X σ (E σ)) (I : Inv X pins σ H s) (hb : BindsTo s (fdOf X.K f) ⟨us, kw⟩ (ps.zip ws)) (r : Vals zs ws) (h : sp zs H Q (E σ)) : wpAny (model X.prog X.w) X.A (call (.ref f) us kw) (EP X pins σ Q) X.xe s := by
  refine wpAny_call (codeAny_mono (F.run X.A X.stack s H ⟨us, kw⟩ ws zs Q (E σ) hgu hr I.env0 hb r h) fun r s' hq => ?_)
  cases r with
  | error e => exact hx pins H s e s' I hq
  | ok fl =>
    cases fl with
    | ret u => exact I.after hq
    | next => exact False.elim hq
    | brk => exact False.elim hq
    | cont => exact False.elim hq
def gCall (sp : Sp) (dvs : List V) (E : L2.St → XK) (t : TA) : TE := fun σ H Q => t σ H fun vs H1 => sp (vs ++ dvs) H1 Q (E σ)
theorem bind_of {ds : List Value} {dvs : List V} {s : Shared} {H : Hp} {Q : VK} {E : XK} {us : List Value} {vs : List V} (F : FnG X.prog X.w X.K X.mg X.base k f ps sp) (hb : Binds X.K (fdOf X.K f) ps ds) (hd : Vals dvs ds) (r : Vals vs us) (KX : X.K.In s.heap) (h : sp (vs ++ dvs) H Q E) :
    BindsTo s (fdOf X.K f) ⟨us, []⟩ (ps.zip (us ++ ds)) := by
  refine hb s us KX ?_
  rw [← (r.append hd).length]
  exact F.len _ _ _ _ h
theorem ge_call (F : FnG X.prog X.w X.K X.mg X.base k f ps sp) (hgu : X.A.guards = some []) (hr : Room k X.A) (hg : Gl X x) (hm : X.mg x = some (.ref f)) (hk : PySem.W.keepIn X.K (.ref f) = true) (hb : Binds X.K (fdOf X.K f) ps ds) (hd : Vals dvs ds) (hx : ∀ σ, PassG X σ (E σ))
    (ha : PA X (e :: es) t) (hdb : (x == ("__debug__" : Str)) = false := by decide) (he : starEach (e :: es) X.env = (false, eval e X.env) :: starEach es X.env := by rfl) (hpl : (backTo pos (starEach es X.env)).any (·.1) = false := by rfl) :
    PE X (.Call (.Name x p) (e :: es) [] pos) (gCall sp dvs E t) := by
  refine ⟨fun pins s σ H Q I h => ?_⟩
  refine wpAny_Call_Name_kw (ld_glob I hg hm ?_ hdb)
  refine PySem.W.callWith_K (h₀ := X.base) I.ok.mod.kin hk (thn (ha.run pos pins s σ H _ I h) fun us s1 ⟨vs, H1, I1, r, q⟩ => ⟨I1.kIn, ?_⟩) he hpl
  exact run_fnG F hgu hr (hx σ) I1 (bind_of F hb hd r I1.kIn q) (r.append hd) q
def gMeth (C : Addr) (m : Str) (sp : Sp) (dvs : List V) (E : L2.St → XK) (ta : TE) (t : TA) : TE := fun σ H Q => ta σ H fun x H1 => ∃ a dx fs, x = .ref a ∧ H1 a = some (.ins C dx fs) ∧ fs.lookup m = none ∧
  t σ H1 fun vs H2 => sp (x :: (vs ++ dvs)) H2 Q (E σ)
theorem ge_meth {pl : Sem Bool} (he : PE X o ta) (c : Cls X.K C) (hm : Meth X.K C m f) (F : FnG X.prog X.w X.K X.mg X.base k f ps sp) (hgu : X.A.guards = some []) (hr : Room k X.A) (hb : Binds X.K (fdOf X.K f) ps ds) (hd : Vals dvs ds) (hx : ∀ σ, PassG X σ (E σ)) (ha : PA X (e :: es) t)
    (hst : starEach (e :: es) X.env = (false, eval e X.env) :: starEach es X.env := by rfl) (hpl : (backTo pos (starEach es X.env)).any (·.1) = false := by rfl)
    (ht : eval (.Call (.Attribute o m apos) (e :: es) [] pos) X.env = (do
      let ov ← eval o X.env
      standAt apos.atName
      let (f, first) ← holding [ov] (getMethod ov m pl)
      callWith pos f first (backTo pos (starEach (e :: es) X.env)) (backToKw pos (keywordEach [] X.env))) := by rfl) :
    PE X (.Call (.Attribute o m apos) (e :: es) [] pos) (gMeth C m sp dvs E ta t) := by
  refine ⟨fun pins s σ H Q I h => ?_⟩
  refine PySem.W.methodCall_KW (pl := pl) (thn (he.run pins s σ H _ I h) fun u s1 ⟨x, H1, I1, rx, a, dx, fs, ex, ea, l, q⟩ => ?_) ht
  subst ex
  obtain rfl : u = Value.ref a := rx
  refine getmeth_ok I1 ea c hm l ?_
  refine PySem.W.callWith_K (first := [.ref a]) (h₀ := X.base) I.ok.mod.kin hm.kp (thn (ha.run pos pins s1 σ H1 _ I1 q) fun us s2 ⟨vs, H2, I2, r, q2⟩ => ⟨I2.kIn, ?_⟩) hst hpl
  have r2 : Vals (V.ref a :: vs) (Value.ref a :: us) := .cons rfl r
  exact run_fnG F hgu hr (hx σ) I2 (bind_of F hb hd r2 I2.kIn q2) (r2.append hd) q2
theorem ge_meth0 {pl : Sem Bool} (he : PE X o ta) (c : Cls X.K C) (hm : Meth X.K C m f) (F : FnG X.prog X.w X.K X.mg X.base k f ps sp) (hgu : X.A.guards = some []) (hr : Room k X.A) (hb : Binds X.K (fdOf X.K f) ps ds) (hd : Vals dvs ds) (hx : ∀ σ, PassG X σ (E σ))
    (ht : eval (.Call (.Attribute o m apos) [] [] pos) X.env = (do
      let ov ← eval o X.env
      standAt apos.atName
      let (f, first) ← holding [ov] (getMethod ov m pl)
      callWith pos f first (backTo pos (starEach [] X.env)) (backToKw pos (keywordEach [] X.env))) := by rfl) :
    PE X (.Call (.Attribute o m apos) [] [] pos) (gMeth C m sp dvs E ta tNil) := by
  refine ⟨fun pins s σ H Q I h => ?_⟩
  refine PySem.W.methodCall_KW (pl := pl) (thn (he.run pins s σ H _ I h) fun u s1 ⟨x, H1, I1, rx, a, dx, fs, ex, ea, l, q⟩ => ?_) ht
  subst ex
  obtain rfl : u = Value.ref a := rx
  refine getmeth_ok I1 ea c hm l ?_
  have r2 : Vals [V.ref a] [Value.ref a] := .cons rfl .nil
  have q2 : sp ([V.ref a] ++ dvs) H1 Q (E σ) := q
  exact PySem.W.callWith_K0 (first := [.ref a]) I1.kIn hm.kp (run_fnG F hgu hr (hx σ) I1 (bind_of F hb hd r2 I1.kIn q2) (r2.append hd) q2)
def gMake (C : Addr) (sp : Sp) (dvs : List V) (E : L2.St → XK) (t : TA) : TE := fun σ H Q => t σ H fun vs H1 => ∀ x dx, H1 x = none → H1 dx = none → dx ≠ x →
  sp (.ref x :: (vs ++ dvs)) (upd (upd H1 dx (.own x)) x (.ins C dx [])) (fun v H2 => v = .non ∧ Q (.ref x) H2) (E σ)
theorem make_guards {A : Around} {C : Addr} {us : List Value} {kw : List (Str × Value)} (h : A.guards = some []) : (A.under (.builtin "type.__call__" ⟨.ref C :: us, kw⟩)).guards = some [] := by
  simp [Around.under, Code.guards, Code.isGuard, guardIds, pushGuards, h]
theorem run_makeG {pins : List (Addr × Obj)} {σ : L2.St} {H : Hp} {s : Shared} {Q : VK} {us : List Value} {kw : List (Str × Value)} (M : Mk X.K C f) (F : FnG X.prog X.w X.K X.mg X.base k f ps sp) (hgu : X.A.guards = some []) (hr : Room (k + 1) X.A)
    (hx : PassG X σ (E σ)) (I : Inv X pins σ H s) (zs : V → List V) (ws : Value → List Value) (hb : ∀ (y : Addr) (s' : Shared), X.K.In s'.heap → BindsTo s' (fdOf X.K f) ⟨Value.ref y :: us, kw⟩ (ps.zip (ws (.ref y)))) (r : ∀ y, Vals (zs (.ref y)) (ws (.ref y)))
    (h : ∀ x dx, H x = none → H dx = none → dx ≠ x → sp (zs (.ref x)) (upd (upd H dx (.own x)) x (.ins C dx [])) (fun v H2 => v = .non ∧ Q (.ref x) H2) (E σ)) :
    wpAny (model X.prog X.w) X.A (call (.ref C) us kw) (EP X pins σ Q) X.xe s := by
  have hq := h (s.heap.objs.size + 1) s.heap.objs.size (I.hok.fresh (Nat.le_succ _)) (I.hok.fresh (Nat.le_refl _)) (Nat.ne_of_lt (Nat.lt_succ_self _))
  have I2 := Inv.made (C := C) I
  refine wpAny_call (make_map (f := f) I.kIn M.makes M.init (beq_iff_eq.mp M.fn) (codeAny_mono (F.run _ X.stack _ _ ⟨Value.ref (s.heap.objs.size + 1) :: us, kw⟩ _ _ _ (E σ) (make_guards hgu) (hr.make C us kw)
    (I2.env0.make C us kw) (hb _ _ I2.kIn) (r _) hq) fun r s' hq' => ?_))
  cases r with
  | error e => exact hx pins _ _ e s' I2 hq'
  | ok fl =>
    cases fl with
    | ret u =>
      obtain ⟨v, H', I3, rv, ev, q3⟩ := I2.after hq'
      subst ev
      exact ⟨rv, ⟨V.ref (s.heap.objs.size + 1), H', I3, rfl, q3⟩⟩
    | next => exact False.elim hq'
    | brk => exact False.elim hq'
    | cont => exact False.elim hq'
end
end Wk
set_option maxRecDepth 100000
set_option maxHeartbeats 4000000
namespace Wk
open PySem PySem.Spec PyProof.Rows L2
def kD : Key → PyData
  | .inl i => .int i
  | .inr x => .str x
mutual
/-- the value v stands for the tree -/
inductive Rep (H : Hp) : V → PyData → Prop
  | non : Rep H .non .none
  | bl (b : Bool) : Rep H (.bl b) (.bool b)
  | int (i : Int) : Rep H (.int i) (.int i)
  | str (x : Str) : Rep H (.str x) (.str x)
  | lst {a : Addr} {vs : List V} {ds : List PyData} : H a = some (.lst vs) → RepL H vs ds → Rep H (.ref a) (.list ds)
  | tup {a : Addr} {vs : List V} {ds : List PyData} : H a = some (.tup vs) → RepL H vs ds → Rep H (.ref a) (.tuple ds)
  | dict {a : Addr} {kvs : List (Key × V)} {ds : List (PyData × PyData)} : H a = some (.dK kvs) → RepK H kvs ds → Rep H (.ref a) (.dict ds)
inductive RepL (H : Hp) : List V → List PyData → Prop
  | nil : RepL H [] []
  | cons {v : V} {vs : List V} {d : PyData} {ds : List PyData} : Rep H v d → RepL H vs ds → RepL H (v :: vs) (d :: ds)
inductive RepK (H : Hp) : List (Key × V) → List (PyData × PyData) → Prop
  | nil : RepK H [] []
  | cons {k : Key} {v : V} {kvs : List (Key × V)} {d : PyData} {ds : List (PyData × PyData)} : Rep H v d → RepK H kvs ds → RepK H ((k, v) :: kvs) ((kD k, d) :: ds)
end
mutual
theorem Rep.mono {H H' : Hp} (e : Ex H H') : ∀ {v : V} {d : PyData}, Rep H v d → Rep H' v d
  | _, _, .non => .non
  | _, _, .bl b => .bl b
  | _, _, .int i => .int i
  | _, _, .str x => .str x
  | _, _, .lst h l => .lst (e _ _ h) (RepL.mono e l)
  | _, _, .tup h l => .tup (e _ _ h) (RepL.mono e l)
  | _, _, .dict h l => .dict (e _ _ h) (RepK.mono e l)
theorem RepL.mono {H H' : Hp} (e : Ex H H') : ∀ {vs : List V} {ds : List PyData}, RepL H vs ds → RepL H' vs ds
  | _, _, .nil => .nil
  | _, _, .cons h l => .cons (Rep.mono e h) (RepL.mono e l)
theorem RepK.mono {H H' : Hp} (e : Ex H H') : ∀ {vs : List (Key × V)} {ds : List (PyData × PyData)}, RepK H vs ds → RepK H' vs ds
  | _, _, .nil => .nil
  | _, _, .cons h l => .cons (Rep.mono e h) (RepK.mono e l)
end
theorem HI.rep {H D : Hp} {R : List (Addr × HO)} {v : V} {d : PyData} (h : HI H R D) (r : Rep D v d) : Rep H v d := r.mono h.sub
theorem RepL.length {H : Hp} : ∀ {vs : List V} {ds : List PyData}, RepL H vs ds → vs.length = ds.length
  | _, _, .nil => rfl
  | _, _, .cons _ l => congrArg Nat.succ (RepL.length l)
theorem RepL.get {H : Hp} : ∀ {vs : List V} {ds : List PyData} {i : Nat} {v : V}, RepL H vs ds → vs[i]? = some v → ∃ d, ds[i]? = some d ∧ Rep H v d
  | _, _, _, _, .nil, e => by simp at e
  | _, _, 0, _, .cons h _, e => by
    simp at e
    subst e
    exact ⟨_, rfl, h⟩
  | _, _, i + 1, _, .cons _ l, e => by
    obtain ⟨d, h1, h2⟩ := RepL.get (i := i) l (by simpa using e)
    exact ⟨d, by simpa using h1, h2⟩
theorem RepL.getD {H : Hp} : ∀ {vs : List V} {ds : List PyData} {i : Nat} {d : PyData}, RepL H vs ds → ds[i]? = some d → ∃ v, vs[i]? = some v ∧ Rep H v d
  | _, _, _, _, .nil, e => by simp at e
  | _, _, 0, _, .cons h _, e => by
    simp at e
    subst e
    exact ⟨_, rfl, h⟩
  | _, _, i + 1, _, .cons _ l, e => by
    obtain ⟨d, h1, h2⟩ := RepL.getD (i := i) l (by simpa using e)
    exact ⟨d, by simpa using h1, h2⟩
theorem RepL.append {H : Hp} : ∀ {vs ws : List V} {ds es : List PyData}, RepL H vs ds → RepL H ws es → RepL H (vs ++ ws) (ds ++ es)
  | _, _, _, _, .nil, r => r
  | _, _, _, _, .cons h l, r => .cons h (RepL.append l r)
theorem RepL.take {H : Hp} : ∀ {vs : List V} {ds : List PyData} (n : Nat), RepL H vs ds → RepL H (vs.take n) (ds.take n)
  | _, _, 0, _ => .nil
  | _, _, _ + 1, .nil => .nil
  | _, _, n + 1, .cons h l => .cons h (RepL.take n l)
theorem RepL.drop {H : Hp} : ∀ {vs : List V} {ds : List PyData} (n : Nat), RepL H vs ds → RepL H (vs.drop n) (ds.drop n)
  | _, _, 0, r => r
  | _, _, _ + 1, .nil => .nil
  | _, _, n + 1, .cons _ l => RepL.drop n l
theorem RepL.snoc {H : Hp} {vs : List V} {ds : List PyData} {v : V} {d : PyData} (l : RepL H vs ds) (h : Rep H v d) : RepL H (vs ++ [v]) (ds ++ [d]) := l.append (.cons h .nil)
section
variable {X : Cx} {pins : List (Addr × Obj)} {σ : L2.St} {H : Hp} {s : Shared}
/-- the written part holds the table of modules -/
def HasSys (K : PySem.W.Frag) : Prop := ∃ o, K.lookup sysModules = some o
theorem not_sys (I : Inv X pins σ H s) (hs : HasSys X.K) {a : Addr} {o : HO} (h : H a = some o) : a ≠ sysModules := fun e => by
  obtain ⟨ob, ho⟩ := hs
  have z := (I.bs sysModules ob (I.ok.mod.kin _ _ ho)).2
  rw [e, z] at h
  cases h
theorem reads_kd {h : Heap} : ∀ {k : Key} {u : Value}, keyIs k u = true → ∃ as, Reads h u (kD k) as ∧ sysModules ∉ as
  | .inl i, u, e => by
    obtain ⟨t, rfl⟩ := Value.isInt_shape (k := i) (v := u) e
    exact ⟨_, Reads.int i t, by simp⟩
  | .inr x, u, e => by
    obtain ⟨t, rfl⟩ := Value.isStrOf_shape (x := x) (v := u) e
    exact ⟨_, Reads.str x t, by simp⟩
mutual
theorem Rep.reads (I : Inv X pins σ H s) (hs : HasSys X.K) : ∀ {v : V} {d : PyData} {u : Value}, Rep H v d → RelV v u → ∃ as, Reads s.heap u d as ∧ sysModules ∉ as
  | _, _, _, .non, r => by
    cases r
    exact ⟨_, Reads.none, by simp⟩
  | _, _, _, .bl b, r => by
    cases r
    exact ⟨_, Reads.bool b, by simp⟩
  | _, _, _, .int i, r => by
    obtain ⟨t, rfl⟩ := r
    exact ⟨_, Reads.int i t, by simp⟩
  | _, _, _, .str x, r => by
    obtain ⟨t, rfl⟩ := r
    exact ⟨_, Reads.str x t, by simp⟩
  | _, _, _, .lst h l, r => by
    cases r
    obtain ⟨its, rv, ⟨o, n, ho, hc, _, hd⟩, _⟩ := I.list (SqL.of h)
    obtain ⟨as, hr, hn⟩ := RepL.reads I hs l rv
    exact ⟨_, Reads.list ho hc hd hr, by
      rw [List.mem_cons]
      exact not_or.mpr ⟨(not_sys I hs h).symm, hn⟩⟩
  | _, _, _, .tup h l, r => by
    cases r
    obtain ⟨its, rv, ⟨o, ho, hc, n, hd⟩, _⟩ := I.tuple (SqT.of h)
    obtain ⟨as, hr, hn⟩ := RepL.reads I hs l rv
    exact ⟨_, Reads.tuple ho hc hd hr, hn⟩
  | _, _, _, .dict h l, r => by
    cases r
    obtain ⟨_, _, vs, rv, o, es, ep, ho, hx, hd, _, hp, _⟩ := I.hok _ _ h
    obtain ⟨as, bs, h1, h2, n1, n2⟩ := RepK.reads I hs l rv hp
    exact ⟨_, Reads.dict ho hx.1 hd h1 h2, by
      rw [List.cons_append, List.mem_cons, List.mem_append]
      exact not_or.mpr ⟨(not_sys I hs h).symm, not_or.mpr ⟨n1, n2⟩⟩⟩
theorem RepL.reads (I : Inv X pins σ H s) (hs : HasSys X.K) : ∀ {vs : List V} {ds : List PyData} {us : List Value}, RepL H vs ds → Vals vs us → ∃ as, ReadsAll s.heap us ds as ∧ sysModules ∉ as
  | _, _, _, .nil, r => by
    cases r
    exact ⟨_, ReadsAll.nil, by simp⟩
  | _, _, _, .cons h l, r => by
    cases r with
    | cons r1 r2 =>
      obtain ⟨as, q1, n1⟩ := Rep.reads I hs h r1
      obtain ⟨bs, q2, n2⟩ := RepL.reads I hs l r2
      exact ⟨_, ReadsAll.cons q1 q2, by
        rw [List.mem_append]
        exact not_or.mpr ⟨n1, n2⟩⟩
theorem RepK.reads (I : Inv X pins σ H s) (hs : HasSys X.K) : ∀ {kvs : List (Key × V)} {ds : List (PyData × PyData)} {us : List (Key × Value)} {es : List DictEntry}, RepK H kvs ds → KV kvs us → Pairs (mixKind X.prog X.w) es us →
    ∃ as bs, ReadsAll s.heap (es.map (·.key)) (ds.map (·.1)) as ∧ ReadsAll s.heap (es.map (·.val)) (ds.map (·.2)) bs ∧ sysModules ∉ as ∧ sysModules ∉ bs
  | _, _, _, _, .nil, r, p => by
    cases r
    cases p
    exact ⟨_, _, ReadsAll.nil, ReadsAll.nil, by simp, by simp⟩
  | _, _, _, _, .cons h l, r, p => by
    cases r with
    | cons r1 r2 =>
      cases p with
      | cons p1 p2 p3 =>
        obtain ⟨e1, e2⟩ := r1
        obtain ⟨as, bs, q1, q2, n1, n2⟩ := RepK.reads I hs l r2 p3
        rw [← e1] at p1
        obtain ⟨a1, g1, m1⟩ := reads_kd (h := s.heap) (show keyIs _ _ = true from p1)
        rw [← p2] at e2
        obtain ⟨a2, g2, m2⟩ := Rep.reads I hs h e2
        exact ⟨_, _, ReadsAll.cons g1 q1, ReadsAll.cons g2 q2, by
          rw [List.mem_append]
          exact not_or.mpr ⟨m1, n1⟩, by
          rw [List.mem_append]
          exact not_or.mpr ⟨m2, n2⟩⟩
end
end
/-- repr(x) -/
def rRepr : List V → Hp → VK → Prop := fun xs H Q => ∃ x d, xs = [x] ∧ Rep H x d ∧ d.showable = true ∧ d.shown.length ≤ sizeLine ∧ d.depth ≤ 60 ∧ Q (.str d.shown) H
theorem call_repr {X : Cx} {k : Nat} (hgu : X.A.guards = some []) (hr : Room k X.A) (hs : HasSys X.K) : CallR X (.builtin "repr") rRepr := by
  intro pins s σ H xs us Q I r h
  obtain ⟨x, d, rfl, hx, h1, h2, h3, q⟩ := h
  obtain ⟨u, rfl, ru⟩ := vals1 r
  have hu := hr.units
  have fin : ∀ h' t tk, (∀ b o, s.heap.get? b = some o → h'.get? b = some o) → EP X pins σ Q (.str d.shown t) { s with heap := h', toks := tk } := fun h' t tk k => ⟨.str d.shown, H, I.kept k, ⟨_, rfl⟩, q⟩
  cases hx with
  | non => cases ru; exact P.repr_of_none (fin s.heap _ _ fun _ _ e => e)
  | bl b => cases ru; exact P.repr_of_bool (fin s.heap _ _ fun _ _ e => e)
  | int i =>
    obtain ⟨t, rfl⟩ := ru
    exact P.repr_of_int (by simpa [PyData.showable] using h1) (fin s.heap _ _ fun _ _ e => e)
  | str z =>
    obtain ⟨t, rfl⟩ := ru
    exact P.repr_of_str (fin s.heap _ _ fun _ _ e => e) h2
  | lst e l =>
    obtain ⟨as, hrd, hn⟩ := Rep.reads I hs (.lst e l) ru
    cases ru
    exact repr_of_reads' hrd h1 (fun _ => hn) hgu (by omega) (fun _ _ e => e) (fun h' u tk k => fin h' u tk k) h2
  | tup e l =>
    obtain ⟨as, hrd, hn⟩ := Rep.reads I hs (.tup e l) ru
    cases ru
    exact repr_of_reads' hrd h1 (fun _ => hn) hgu (by omega) (fun _ _ e => e) (fun h' u tk k => fin h' u tk k) h2
  | dict e l =>
    obtain ⟨as, hrd, hn⟩ := Rep.reads I hs (.dict e l) ru
    cases ru
    exact repr_of_reads' hrd h1 (fun _ => hn) hgu (by omega) (fun _ _ e => e) (fun h' u tk k => fin h' u tk k) h2
end Wk
set_option maxRecDepth 100000
set_option maxHeartbeats 4000000
namespace Wk
open PySem PySem.Spec PyProof.Rows L2
inductive RAdd : V → V → Hp → VK → Prop
  | int {i j : Int} {H : Hp} {Q : VK} : Q (.int (i + j)) H → RAdd (.int i) (.int j) H Q
  | str {a b : Str} {H : Hp} {Q : VK} : a.length + b.length ≤ sizeLine → Q (.str (a ++ b)) H → RAdd (.str a) (.str b) H Q
  | lst {p q : Addr} {xs ys : List V} {H : Hp} {Q : VK} : H p = some (.lst xs) → H q = some (.lst ys) → xs.length + ys.length ≤ sizeLine → AlD (.lst (xs ++ ys)) H Q → RAdd (.ref p) (.ref q) H Q
  | tup {p q : Addr} {xs ys : List V} {H : Hp} {Q : VK} : H p = some (.tup xs) → H q = some (.tup ys) → xs ≠ [] → ys ≠ [] → xs.length + ys.length ≤ sizeLine → AlD (.tup (xs ++ ys)) H Q → RAdd (.ref p) (.ref q) H Q
  | tup0 {p q : Addr} {xs : List V} {H : Hp} {Q : VK} : H p = some (.tup xs) → H q = some (.tup []) → xs ≠ [] → xs.length ≤ sizeLine → Q (.ref p) H → RAdd (.ref p) (.ref q) H Q
section
variable {X : Cx}
theorem op_addU : OpR X (binaryOp .Add) (RAdd) := by
  intro pins s σ H x y v u Q I rx ry h
  cases h with
  | int q => exact op_add pins s σ H _ _ v u Q I rx ry ⟨_, _, rfl, rfl, q⟩
  | str hl q => exact op_add_str pins s σ H _ _ v u Q I rx ry ⟨_, _, rfl, rfl, hl, q⟩
  | lst h1 h2 hl q => exact op_cat pins s σ H _ _ v u Q I rx ry ⟨_, _, _, _, rfl, rfl, h1, h2, hl, q⟩
  | tup h1 h2 n1 n2 hl q => exact op_catT pins s σ H _ _ v u Q I rx ry ⟨_, _, _, _, rfl, rfl, SqT.of h1, SqT.of h2, n1, hl, fun e => absurd e n2, fun _ => q⟩
  | tup0 h1 h2 n1 hl q => exact op_catT pins s σ H _ _ v u Q I rx ry ⟨_, _, _, _, rfl, rfl, SqT.of h1, SqT.of h2, n1, hl, fun _ => q, fun n => absurd rfl n⟩
end
/-- a text, written n times -/
def strRep (a : Str) (n : Nat) : Str := ⟨(List.replicate n a.cps).foldl (· ++ ·) #[]⟩
inductive RMul : V → V → Hp → VK → Prop
  | str {a : Str} {k : Int} {H : Hp} {Q : VK} : 1 ≤ a.length → a.length ≤ 1000 → 1 ≤ k → k ≤ 1000 → Q (.str (strRep a k.toNat)) H → RMul (.str a) (.int k) H Q
  | int {i j : Int} {H : Hp} {Q : VK} : CMul i j → Q (.int (i * j)) H → RMul (.int i) (.int j) H Q
  | lst {p : Addr} {k : Int} {xs : List V} {H : Hp} {Q : VK} : H p = some (.lst xs) → -(2 ^ 63) ≤ k → k < 2 ^ 63 → xs.length * k.toNat ≤ sizeLine → AlD (.lst (List.replicate k.toNat xs).flatten) H Q → RMul (.ref p) (.int k) H Q
section
variable {X : Cx}
theorem op_mulU : OpR X (binaryOp .Mult) (RMul) := by
  intro pins s σ H x y v u Q I rx ry h
  cases h with
  | @str a k _ _ a0 a1 k0 k1 q =>
    obtain ⟨t, rfl⟩ := rx
    obtain ⟨t', rfl⟩ := ry
    have e1 : decide (k < -(2 ^ 63 : Int)) = false := decide_eq_false (by omega)
    have e2 : decide (k ≥ 2 ^ 63) = false := decide_eq_false (by omega)
    have hm : a.length * k.toNat ≤ 1000 * 1000 := Nat.mul_le_mul a1 (by omega)
    refine PySem.P.mul_str (by rw [e1, e2]; rfl) (fun _ _ => ?_) (fun _ _ => ?_) ?_
    · have : (1000 : Int) ≤ (2 ^ 63 - 1) / k := by
        refine Int.le_ediv_of_mul_le (by omega) ?_
        have : 1000 * k ≤ 1000 * 1000 := by omega
        omega
      omega
    · show decide (a.length * k.toNat > sizeLine) = false
      rw [sizeLine_eq]
      exact decide_eq_false (by omega)
    · rw [if_neg (by omega)]
      by_cases h1 : k = 1
      · subst h1
        have e : strRep a (Int.toNat 1) = a := by
          show (⟨#[] ++ a.cps⟩ : Str) = a
          obtain ⟨x⟩ := a
          simp
        rw [e] at q
        exact ⟨.str a, H, I, ⟨t, rfl⟩, q⟩
      · have e3 : (k == 1 || a.length == 0) = false := by
          rw [Bool.or_eq_false_iff]
          exact ⟨beq_eq_false_iff_ne.mpr h1, beq_eq_false_iff_ne.mpr (by omega)⟩
        rw [e3]
        have hl : (strRep a k.toNat).length ≤ sizeLine := by
          have : ∀ (n : Nat) (acc : Array Nat), ((List.replicate n a.cps).foldl (· ++ ·) acc).size = acc.size + a.length * n := by
            intro n
            induction n with
            | zero => intro acc; simp
            | succ n ih =>
              intro acc
              rw [List.replicate_succ, List.foldl_cons, ih, Array.size_append, Nat.mul_succ]
              have : a.cps.size = a.length := rfl
              omega
          show ((List.replicate k.toNat a.cps).foldl (· ++ ·) #[]).size ≤ sizeLine
          rw [this, sizeLine_eq]
          simp
          omega
        exact ⟨hl, .str _, H, I.tok _, ⟨_, rfl⟩, q⟩
  | int hc q => exact op_mul pins s σ H _ _ v u Q I rx ry ⟨_, _, rfl, rfl, hc, q⟩
  | lst h1 h2 h3 hl q => exact op_rep pins s σ H _ _ v u Q I rx ry ⟨_, _, _, rfl, rfl, h1, h2, h3, hl, q⟩
end
mutual
theorem Rep.dp {K : PySem.W.Frag} {H : Hp} : ∀ {v : V} {d : PyData}, Rep H v d → d.hasDict = false → Dp K H v d
  | _, _, .non, _ => .non
  | _, _, .bl b, _ => .bl b
  | _, _, .int i, _ => .int i
  | _, _, .str x, _ => .str x
  | _, _, .lst h l, n => .lst (SqL.of h) (RepL.dp l (by simpa [PyData.hasDict] using n))
  | _, _, .tup h l, n => .tup (SqT.of h) (RepL.dp l (by simpa [PyData.hasDict] using n))
  | _, _, .dict h l, n => by simp [PyData.hasDict] at n
theorem RepL.dp {K : PySem.W.Frag} {H : Hp} : ∀ {vs : List V} {ds : List PyData}, RepL H vs ds → PyData.hasDictAll ds = false → DpAll K H vs ds
  | _, _, .nil, _ => .nil
  | _, _, .cons h l, n => by
    simp only [PyData.hasDictAll, Bool.or_eq_false_iff] at n
    exact .cons (Rep.dp h n.1) (RepL.dp l n.2)
end
inductive REq (neg : Bool) : V → V → Hp → VK → Prop
  | scal {x y : V} {H : Hp} {Q : VK} : scal x y = true → Q (.bl (if neg then !decide (x = y) else decide (x = y))) H → REq neg x y H Q
  | dat {x y : V} {d e : PyData} {H : Hp} {Q : VK} : Rep H x d → Rep H y e → d.hasDict = false → e.hasDict = false → SeqAt.shaped d = true → SeqAt.shaped e = true → Q (.bl (if neg then !PyData.eqv d e else PyData.eqv d e)) H → REq neg x y H Q
section
variable {X : Cx}
theorem op_eqU (hu : X.A.units + 64 < cLine) : OpR X (compareOp .Eq) (REq false) := by
  intro pins s σ H x y v u Q I rx ry h
  cases h with
  | scal h1 q => exact op_eq pins s σ H _ _ v u Q I rx ry ⟨h1, q⟩
  | dat h1 h2 n1 n2 s1 s2 q => exact op_eqD hu pins s σ H _ _ v u Q I rx ry ⟨_, _, h1.dp n1, h2.dp n2, s1, s2, q⟩
theorem op_neU (hu : X.A.units + 64 < cLine) : OpR X (compareOp .NotEq) (REq true) := by
  intro pins s σ H x y v u Q I rx ry h
  cases h with
  | scal h1 q => exact op_ne pins s σ H _ _ v u Q I rx ry ⟨h1, q⟩
  | dat h1 h2 n1 n2 s1 s2 q => exact op_neD hu pins s σ H _ _ v u Q I rx ry ⟨_, _, h1.dp n1, h2.dp n2, s1, s2, q⟩
end
inductive RIn (neg : Bool) : V → V → Hp → VK → Prop
  | sign {c : Nat} {z : Str} {H : Hp} {Q : VK} : Q (.bl (if neg then !decide (c ∈ z.cps.toList) else decide (c ∈ z.cps.toList))) H → RIn neg (.str ⟨#[c]⟩) (.str z) H Q
  | lst {x : V} {p : Addr} {xs : List V} {H : Hp} {Q : VK} : H p = some (.lst xs) → flatV x = true → xs.all flatV = true → Q (.bl (if neg then !inV x xs else inV x xs)) H → RIn neg x (.ref p) H Q
section
variable {X : Cx}
theorem op_niU : OpR X (compareOp .NotIn) (RIn true) := by
  intro pins s σ H x y v u Q I rx ry h
  cases h with
  | sign q => exact op_notIn_sign pins s σ H _ _ v u Q I rx ry ⟨_, _, rfl, rfl, q⟩
  | lst h1 h2 h3 q => exact op_notIn_seq pins s σ H _ _ v u Q I rx ry ⟨_, _, rfl, .inl (SqL.of h1), h2, h3, q⟩
end
theorem is_bl_rel {prog : Program} {w : World} {A : Around} {E : Value → Shared → Prop} {s : Shared} {x : V} {v : Value} {b : Bool} {Q : Value → Shared → Prop} (r : RelV x v) (h : Q (.bool (decide (x = .bl b))) s) : wpAny (model prog w) A (compareOp .Is v (.bool b)) Q E s := by
  cases x with
  | non => cases r; exact wpAny_pure (a := Value.bool false) (by simpa using h)
  | bl c =>
    cases r
    refine is_bool ?_
    rw [show (c == b) = decide (V.bl c = .bl b) from dec_bl.symm]
    exact h
  | int _ => obtain ⟨t, rfl⟩ := r; exact wpAny_pure (a := Value.bool false) (by simpa using h)
  | str _ => obtain ⟨t, rfl⟩ := r; exact wpAny_pure (a := Value.bool false) (by simpa using h)
  | byt _ => obtain ⟨t, rfl⟩ := r; exact wpAny_pure (a := Value.bool false) (by simpa using h)
  | flt _ => obtain ⟨t, rfl⟩ := r; exact wpAny_pure (a := Value.bool false) (by simpa using h)
  | ref _ => cases r; exact wpAny_pure (a := Value.bool false) (by simpa using h)
  | ty _ => cases r; exact wpAny_pure (a := Value.bool false) (by simpa using h)
theorem isn_bl_rel {prog : Program} {w : World} {A : Around} {E : Value → Shared → Prop} {s : Shared} {x : V} {v : Value} {b : Bool} {Q : Value → Shared → Prop} (r : RelV x v) (h : Q (.bool (!decide (x = .bl b))) s) : wpAny (model prog w) A (compareOp .IsNot v (.bool b)) Q E s := by
  cases x with
  | non => cases r; exact wpAny_pure (a := Value.bool true) (by simpa using h)
  | bl c =>
    cases r
    refine isnot_bool ?_
    rw [show (c != b) = !decide (V.bl c = .bl b) from congrArg not dec_bl.symm]
    exact h
  | int _ => obtain ⟨t, rfl⟩ := r; exact wpAny_pure (a := Value.bool true) (by simpa using h)
  | str _ => obtain ⟨t, rfl⟩ := r; exact wpAny_pure (a := Value.bool true) (by simpa using h)
  | byt _ => obtain ⟨t, rfl⟩ := r; exact wpAny_pure (a := Value.bool true) (by simpa using h)
  | flt _ => obtain ⟨t, rfl⟩ := r; exact wpAny_pure (a := Value.bool true) (by simpa using h)
  | ref _ => cases r; exact wpAny_pure (a := Value.bool true) (by simpa using h)
  | ty _ => cases r; exact wpAny_pure (a := Value.bool true) (by simpa using h)
inductive RIs (neg : Bool) : V → V → Hp → VK → Prop
  | non {x : V} {H : Hp} {Q : VK} : Q (.bl (if neg then !decide (x = .non) else decide (x = .non))) H → RIs neg x .non H Q
  | bl {x : V} {b : Bool} {H : Hp} {Q : VK} : Q (.bl (if neg then !decide (x = .bl b) else decide (x = .bl b))) H → RIs neg x (.bl b) H Q
section
variable {X : Cx}
theorem op_isU : OpR X (compareOp .Is) (RIs false) := by
  intro pins s σ H x y v u Q I rx ry h
  cases h with
  | non q => exact op_isN pins s σ H _ _ v u Q I rx ry ⟨rfl, q⟩
  | bl q =>
    cases ry
    exact is_bl_rel rx ⟨.bl _, H, I, rfl, q⟩
theorem op_isnU : OpR X (compareOp .IsNot) (RIs true) := by
  intro pins s σ H x y v u Q I rx ry h
  cases h with
  | non q => exact op_notN pins s σ H _ _ v u Q I rx ry ⟨rfl, q⟩
  | bl q =>
    cases ry
    exact isn_bl_rel rx ⟨.bl _, H, I, rfl, q⟩
end
inductive RLen : List V → Hp → VK → Prop
  | str {z : Str} {H : Hp} {Q : VK} : z.length ≤ sizeLine → Q (.int z.length) H → RLen [.str z] H Q
  | lst {p : Addr} {xs : List V} {H : Hp} {Q : VK} : H p = some (.lst xs) → Q (.int xs.length) H → RLen [.ref p] H Q
  | tup {p : Addr} {xs : List V} {H : Hp} {Q : VK} : H p = some (.tup xs) → Q (.int xs.length) H → RLen [.ref p] H Q
  | dict {p : Addr} {xs : List (Key × V)} {H : Hp} {Q : VK} : H p = some (.dK xs) → Q (.int xs.length) H → RLen [.ref p] H Q
  | frz {p : Addr} {o : Obj} {xs : List V} {H : Hp} {Q : VK} : H p = some (.frz o (.lst xs)) → Q (.int xs.length) H → RLen [.ref p] H Q
theorem call_lenU {X : Cx} : CallR X (.builtin "len") RLen := by
  intro pins s σ H xs us Q I r h
  cases h with
  | str h1 q => exact call_len_str pins s σ H _ us Q I r ⟨_, rfl, h1, q⟩
  | lst h1 q => exact call_len_seq pins s σ H _ us Q I r ⟨_, _, rfl, .inl (SqL.of h1), q⟩
  | tup h1 q => exact call_len_seq pins s σ H _ us Q I r ⟨_, _, rfl, .inr (SqT.of h1), q⟩
  | dict h1 q => exact call_lenD pins s σ H _ us Q I r ⟨_, _, rfl, h1, q⟩
  | frz h1 q => exact call_len_seq pins s σ H _ us Q I r ⟨_, _, rfl, .inl (.inl (.inr ⟨_, h1⟩)), q⟩
inductive RSl : V → Option Int → Option Int → Hp → VK → Prop
  | str {z : Str} {lo hi : Option Int} {H : Hp} {Q : VK} : z.length ≤ sizeLine → Q (.str (cutS z lo hi)) H → RSl (.str z) lo hi H Q
  | lst {p : Addr} {xs : List V} {lo hi : Option Int} {H : Hp} {Q : VK} : H p = some (.lst xs) → AlD (.lst (cutV xs lo hi)) H Q → RSl (.ref p) lo hi H Q
inductive RSlM : V → Option Int → Option Int → Hp → VK → Prop
  | lst {p : Addr} {xs : List V} {lo hi : Option Int} {H : Hp} {Q : VK} : H p = some (.lst xs) → AlM (.lst (cutV xs lo hi)) H Q → RSlM (.ref p) lo hi H Q
section
variable {X : Cx}
theorem sl_UM : SlR X (RSlM) := by
  intro pins s σ H x v lo hi vl vu sl Q I rx hs h1 h2 h
  cases h with
  | lst hl q => exact sl_list pins s σ H _ v _ _ vl vu sl Q I rx hs h1 h2 ⟨_, _, rfl, SqL.of hl, q⟩
theorem pe_lstM {es : List Expr} {t : TA} {pos : Pos} (h : PA X es t) : PE X (.List es pos) (tLstM t) := pe_lst h
end
theorem cdiv_of {i j : Int} (h0 : 0 < j) (h1 : j < 2 ^ 100) : CDivW i j := wide_div (b := 100) h0 (by omega) (by decide) (by decide)
theorem mod_let {i j : Int} {H : Hp} {Q : VK} (h : 0 < j) (k : ∀ r, 0 ≤ r → r < j → Q (.int r) H) : rI (fun _ j => 0 < j) (fun i j => .int (i % j)) (.int i) (.int j) H Q :=
  ⟨i, j, rfl, rfl, h, k _ (Int.emod_nonneg _ (by omega)) (Int.emod_lt_of_pos _ h)⟩
theorem pow_ok {r c z d : Int} (h1 : 0 ≤ r) (h2 : r < 2147483648) (h3 : 0 ≤ c) (h4 : c ≤ 200000) (h5 : 0 ≤ z) (h6 : z ≤ 1000001) (h7 : 0 ≤ d) (h8 : d ≤ 1000) : (r / 8 + c * z * z + d).natAbs < 2 ^ 64 := by
  have a1 : z * z ≤ 1000001 * 1000001 := Int.mul_le_mul h6 h6 h5 (by omega)
  have a2 : 0 ≤ z * z := Int.mul_nonneg h5 h5
  have a3 : c * (z * z) ≤ 200000 * (1000001 * 1000001) := Int.mul_le_mul h4 a1 a2 (by omega)
  have a4 : 0 ≤ c * (z * z) := Int.mul_nonneg h3 a2
  rw [Int.mul_assoc]
  omega
inductive RIx : V → V → Hp → VK → Prop
  | l {p : Addr} {xs : List V} {i : Int} {v : V} {H : Hp} {Q : VK} : H p = some (.lst xs) → atI xs i = some v → Q v H → RIx (.ref p) (.int i) H Q
  | t {p : Addr} {xs : List V} {i : Int} {v : V} {H : Hp} {Q : VK} : H p = some (.tup xs) → atI xs i = some v → Q v H → RIx (.ref p) (.int i) H Q
  | f {p : Addr} {o : Obj} {xs : List V} {i : Int} {v : V} {H : Hp} {Q : VK} : H p = some (.frz o (.lst xs)) → atI xs i = some v → Q v H → RIx (.ref p) (.int i) H Q
  | s {z : Str} {i : Int} {c : Nat} {H : Hp} {Q : VK} : z.length ≤ sizeLine → atI z.cps.toList i = some c → Q (.str ⟨#[c]⟩) H → RIx (.str z) (.int i) H Q
theorem ix_U {X : Cx} : IxR X RIx := by
  intro a b pins s σ H x y v u Q I rx ry h hs
  cases h with
  | l e1 e2 q => exact ix_seq a b pins s σ H _ _ v u Q I rx ry (.inl ⟨_, _, _, _, rfl, rfl, SqL.of e1, e2, q⟩) hs
  | t e1 e2 q => exact ix_seq a b pins s σ H _ _ v u Q I rx ry (.inr (.inl ⟨_, _, _, _, rfl, rfl, SqT.of e1, e2, q⟩)) hs
  | f e1 e2 q => exact ix_seq a b pins s σ H _ _ v u Q I rx ry (.inl ⟨_, _, _, _, rfl, rfl, .inl (.inr ⟨_, e1⟩), e2, q⟩) hs
  | s e1 e2 q => exact ix_seq a b pins s σ H _ _ v u Q I rx ry (.inr (.inr ⟨_, _, _, rfl, rfl, e1, e2, q⟩)) hs
theorem setL {p : Addr} {xs : List V} {k : Int} {j : Nat} {v : V} {H : Hp} {Q : Hp → Prop} (h : H p = some (.lst xs)) (e : ixN xs.length k = some j) (q : Q (upd H p (.lst (xs.set j v)))) : rSetL (.ref p) (.int k) v H Q := ⟨p, xs, k, j, rfl, rfl, h, e, q⟩
theorem set_c {p : Addr} {xs : List V} {R : List (Addr × HO)} {k : Int} {j : Nat} {v : V} {H D : Hp} {Q : Hp → Prop} (hi : HI H ((p, .lst xs) :: R) D) (e : ixN xs.length k = some j) (q : ∀ H', HI H' ((p, .lst (xs.set j v)) :: R) D → Q H') : rSetL (.ref p) (.int k) v H Q :=
  setL (hi.get (List.mem_cons_self ..)) e (q _ hi.set)
theorem set_c2 {p : Addr} {xs : List V} {y : Addr × HO} {R : List (Addr × HO)} {k : Int} {j : Nat} {v : V} {H D : Hp} {Q : Hp → Prop} (hi : HI H (y :: (p, .lst xs) :: R) D) (e : ixN xs.length k = some j) (q : ∀ H', HI H' (y :: (p, .lst (xs.set j v)) :: R) D → Q H') : rSetL (.ref p) (.int k) v H Q :=
  setL (hi.get (List.mem_cons_of_mem _ (List.mem_cons_self ..))) e (q _ hi.set2)
theorem set_c3 {p : Addr} {xs : List V} {y z : Addr × HO} {R : List (Addr × HO)} {k : Int} {j : Nat} {v : V} {H D : Hp} {Q : Hp → Prop} (hi : HI H (y :: z :: (p, .lst xs) :: R) D) (e : ixN xs.length k = some j) (q : ∀ H', HI H' (y :: z :: (p, .lst (xs.set j v)) :: R) D → Q H') : rSetL (.ref p) (.int k) v H Q :=
  setL (hi.get (List.mem_cons_of_mem _ (List.mem_cons_of_mem _ (List.mem_cons_self ..)))) e (q _ hi.set3)
end Wk
set_option maxRecDepth 100000
set_option maxHeartbeats 4000000
namespace Wk
open PySem PySem.Spec PyProof.Rows L2
abbrev Cells := List (Addr × HO)
/-- what a for asks of its walk -/
def ForK (J : It) (g : TG) (tb : TS) (D : Ends) (σ : L2.St) (H : Hp) : Prop := ∃ W : Nat → Nat → L2.St → Hp → Prop, (∃ m, W 0 m σ H) ∧ ∀ i m σ H, W i m σ H →
  (J.stop i H ∧ D.nx σ H) ∨ (J.go i H ∧ ∃ N : L2.St → Hp → Prop, (∀ σ' H', N σ' H' → ∃ m', m' < m ∧ W (i + 1) m' σ' H') ∧ ∀ x H', J.yld i H x H' → g x σ H' fun σ2 H2 => tb { D with nx := N, ct := N, bk := D.nx } σ2 H2)
/-- what a comprehension asks of its walk -/
def LcK (J : It) (g : TG) (tt : TT) (te : TE) (vs : List Nat) (σ : L2.St) (H1 : Hp) (Q : VK) : Prop := ∀ D, H1 D = none → ∃ W : Nat → Nat → Hp → Prop, (∃ m, W 0 m (upd H1 D (.lst []))) ∧ ∀ i m H, W i m H →
  (J.stop i H ∧ Q (.ref D) H) ∨ (J.go i H ∧ ∃ Nx : Hp → Prop, (∀ H', Nx H' → ∃ m', m' < m ∧ W (i + 1) m' H') ∧ ∀ x H', J.yld i H x H' → g x (wipe σ vs) H' fun σ2 H2 => wipe σ2 vs = wipe σ vs ∧ tt σ2 H2 fun b H3 =>
    if b = true then te σ2 H3 fun y H4 => ∃ acc, H4 D = some (.lst acc) ∧ acc.length < sizeLine ∧ Nx (upd H4 D (.lst (acc ++ [y]))) else Nx H3)
section
variable {K : PySem.W.Frag} {σ : L2.St} {H : Hp} {Q : VK} {D : Ends} {ta : TA} {te tl : TE} {tt : TT} {g : TG} {tb : TS} {wi : TI} {vs : List Nat} {R : It → Hp → Prop}
theorem st_for (h : wi σ H fun J H1 => ForK J g tb D σ H1) : tFor wi g tb D σ H := h
theorem se_lc (h : wi σ H fun J H1 => LcK J g tt te vs σ H1 Q) : tLc wi g tt te vs σ H Q := h
theorem it_rng1 (h : ta σ H fun vs H1 => ∃ j : Int, vs = [.int j] ∧ -(2 ^ 62) ≤ j ∧ j < 2 ^ 62 ∧ R (Itr 0 j.toNat) H1) : iRng1 ta σ H R := h
theorem it_rng2 (h : ta σ H fun vs H1 => ∃ i j : Int, vs = [.int i, .int j] ∧ (-(2 ^ 62) ≤ i ∧ i < 2 ^ 62 ∧ -(2 ^ 62) ≤ j ∧ j < 2 ^ 62) ∧ R (Itr i (j - i).toNat) H1) : iRng2 ta σ H R := h
theorem it_list (h : tl σ H fun x H1 => ∃ a, x = .ref a ∧ (∃ xs, SqL K H1 a xs) ∧ R (Itl K a) H1) : iList K tl σ H R := h
theorem it_str (h : tl σ H fun v H1 => ∃ x, v = .str x ∧ R (Its x) H1) : iStr tl σ H R := h
theorem rng1_mk {n : Int} {P : Int → Prop} (h1 : -(2 ^ 62) ≤ n) (h2 : n < 2 ^ 62) (q : P n) : ∃ j : Int, [V.int n] = [.int j] ∧ -(2 ^ 62) ≤ j ∧ j < 2 ^ 62 ∧ P j := ⟨n, rfl, h1, h2, q⟩
theorem rng2_mk {a b : Int} {P : Int → Int → Prop} (h1 : -(2 ^ 62) ≤ a ∧ a < 2 ^ 62 ∧ -(2 ^ 62) ≤ b ∧ b < 2 ^ 62) (q : P a b) : ∃ i j : Int, [V.int a, V.int b] = [.int i, .int j] ∧ (-(2 ^ 62) ≤ i ∧ i < 2 ^ 62 ∧ -(2 ^ 62) ≤ j ∧ j < 2 ^ 62) ∧ P i j := ⟨a, b, rfl, h1, q⟩
theorem list_mk {a : Addr} {xs : List V} {P : Addr → Prop} (h : H a = some (.lst xs)) (q : P a) : ∃ b, V.ref a = .ref b ∧ (∃ xs, SqL K H b xs) ∧ P b := ⟨a, rfl, ⟨xs, SqL.of h⟩, q⟩
theorem strI_mk {z : Str} {P : Str → Prop} (q : P z) : ∃ x, V.str z = .str x ∧ P x := ⟨z, rfl, q⟩
theorem st_yes {QB : Bool → Hp → Prop} (h : QB true H) : tYes σ H QB := h
end
/-- the next turn -/
def NX (I : Nat → L2.St → Cells → Hp → Prop) (i : Nat) : L2.St → Hp → Prop := fun σ' H' => ∃ R' D', HI H' R' D' ∧ I i σ' R' D'
section
variable {J : It} {n : Nat} {G : Hp → Prop} {Y : Nat → Hp → V → Hp → Prop} {g : TG} {tb : TS} {D : Ends} {σ : L2.St} {H D0 : Hp} {R0 : Cells} {tt : TT} {te : TE} {vs : List Nat} {Q : VK}
theorem for_hi (w : Walk J n G Y) (I : Nat → L2.St → Cells → Hp → Prop) (hi : HI H R0 D0) (h0 : I 0 σ R0 D0) (hG : ∀ i σ R Dd H, i ≤ n → HI H R Dd → I i σ R Dd → G H)
    (hs : ∀ i x σ R Dd H H', i < n → HI H R Dd → I i σ R Dd → Y i H x H' → g x σ H' fun σ2 H2 => tb { D with nx := NX I (i + 1), ct := NX I (i + 1), bk := D.nx } σ2 H2) (hd : ∀ σ R Dd H, HI H R Dd → I n σ R Dd → D.nx σ H) : ForK J g tb D σ H :=
  for_it w (NX I) ⟨R0, D0, hi, h0⟩ (fun i σ H hn ⟨R, Dd, a, b⟩ => hG i σ R Dd H hn a b) (fun i x σ H H' hn ⟨R, Dd, a, b⟩ y => hs i x σ R Dd H H' hn a b y) (fun σ H ⟨R, Dd, a, b⟩ => hd σ R Dd H a b)
/-- over a range -/
theorem for_rng {lo : Int} (I : Nat → L2.St → Cells → Hp → Prop) (hi : HI H R0 D0) (h0 : I 0 σ R0 D0)
    (hs : ∀ (i : Nat) σ R Dd H, i < n → HI H R Dd → I i σ R Dd → g (.int (lo + i)) σ H fun σ2 H2 => tb { D with nx := NX I (i + 1), ct := NX I (i + 1), bk := D.nx } σ2 H2) (hd : ∀ σ R Dd H, HI H R Dd → I n σ R Dd → D.nx σ H) : ForK (Itr lo n) g tb D σ H :=
  for_hi walk_range I hi h0 (fun _ _ _ _ _ _ _ _ => trivial) (fun i x σ R Dd H H' hn a b y => by
    obtain ⟨rfl, rfl⟩ := y
    exact hs i σ R Dd H' hn a b) hd
/-- over a list that is data -/
theorem for_lst {K : PySem.W.Frag} {a : Addr} {xs : List V} (I : Nat → L2.St → Cells → Hp → Prop) (hi : HI H R0 D0) (h0 : I 0 σ R0 D0) (hl : ∀ i σ R Dd, I i σ R Dd → Dd a = some (.lst xs))
    (hs : ∀ (i : Nat) x σ R Dd H, xs[i]? = some x → HI H R Dd → I i σ R Dd → g x σ H fun σ2 H2 => tb { D with nx := NX I (i + 1), ct := NX I (i + 1), bk := D.nx } σ2 H2) (hd : ∀ σ R Dd H, HI H R Dd → I xs.length σ R Dd → D.nx σ H) : ForK (Itl K a) g tb D σ H :=
  for_hi walk_list I hi h0 (fun i σ R Dd H _ q p => SqL.of (q.dat (hl i σ R Dd p))) (fun i x σ R Dd H H' hn a b y => by
    obtain ⟨rfl, y⟩ := y
    exact hs i x σ R Dd H' y a b) hd
/-- a comprehension's word: its list is the first cell -/
def PW' (L : Addr) (I : Nat → List V → Cells → Hp → Prop) (i : Nat) (H : Hp) : Prop := ∃ acc R Dd, HI H ((L, .lst acc) :: R) Dd ∧ I i acc R Dd ∧ acc.length ≤ i
/-- a turn's end: one more -/
def LE (L : Addr) (I : Nat → List V → Cells → Hp → Prop) (i : Nat) : VK := fun y H => ∃ acc, H L = some (.lst acc) ∧ acc.length < sizeLine ∧ PW' L I i (upd H L (.lst (acc ++ [y])))
theorem le_mk {L : Addr} {I : Nat → List V → Cells → Hp → Prop} {i : Nat} {acc : List V} {R : Cells} {Dd H : Hp} {y : V} (h : HI H ((L, .lst acc) :: R) Dd) (q : I (i + 1) (acc ++ [y]) R Dd) (hl : acc.length ≤ i) (hn : i < 1000000) : LE L I (i + 1) y H :=
  ⟨acc, h.get (List.mem_cons_self ..), by rw [sizeLine_eq]; omega, acc ++ [y], R, Dd, h.set, q, by rw [List.length_append]; simpa using hl⟩
theorem lc_hi (w : Walk J n G Y) (I : Nat → List V → Cells → Hp → Prop) (hi : HI H R0 D0) (h0 : I 0 [] R0 D0) (hG : ∀ i acc R Dd H, i ≤ n → HI H R Dd → I i acc R Dd → G H)
    (hs : ∀ L i acc x R Dd H H', i < n → HI H ((L, .lst acc) :: R) Dd → I i acc R Dd → acc.length ≤ i → Y i H x H' → g x (wipe σ vs) H' fun σ2 H2 => wipe σ2 vs = wipe σ vs ∧ tt σ2 H2 fun b H3 => if b = true then te σ2 H3 (LE L I (i + 1)) else PW' L I (i + 1) H3)
    (hd : ∀ L acc R Dd H, HI H ((L, .lst acc) :: R) Dd → I n acc R Dd → acc.length ≤ n → Q (.ref L) H) : LcK J g tt te vs σ H Q := fun L hL =>
  lc_it w (PW' L I) ⟨[], R0, D0, hi.new hL, h0, Nat.le_refl _⟩ (fun i H' hn ⟨acc, R, Dd, a, b, _⟩ => hG i acc R Dd H' hn a.drop b)
    (fun i x H1 H1' hn1 ⟨acc, R, Dd, a, b, c⟩ y => hs L i acc x R Dd H1 H1' hn1 a b c y) (fun H' ⟨acc, R, Dd, a, b, c⟩ => hd L acc R Dd H' a b c)
theorem lc_rng {lo : Int} (I : Nat → List V → Cells → Hp → Prop) (hi : HI H R0 D0) (h0 : I 0 [] R0 D0)
    (hs : ∀ L i acc R Dd H, i < n → HI H ((L, .lst acc) :: R) Dd → I i acc R Dd → acc.length ≤ i → g (.int (lo + (i : Nat))) (wipe σ vs) H fun σ2 H2 => wipe σ2 vs = wipe σ vs ∧ tt σ2 H2 fun b H3 => if b = true then te σ2 H3 (LE L I (i + 1)) else PW' L I (i + 1) H3)
    (hd : ∀ L acc R Dd H, HI H ((L, .lst acc) :: R) Dd → I n acc R Dd → acc.length ≤ n → Q (.ref L) H) : LcK (Itr lo n) g tt te vs σ H Q :=
  lc_hi walk_range I hi h0 (fun _ _ _ _ _ _ _ _ => trivial) (fun L i acc x R Dd H H' hn a b c y => by
    obtain ⟨rfl, rfl⟩ := y
    exact hs L i acc R Dd H' hn a b c) hd
theorem lc_lst {K : PySem.W.Frag} {a : Addr} {xs : List V} (I : Nat → List V → Cells → Hp → Prop) (hi : HI H R0 D0) (h0 : I 0 [] R0 D0) (hl : ∀ i acc R Dd, I i acc R Dd → Dd a = some (.lst xs))
    (hs : ∀ L i acc x R Dd H, xs[i]? = some x → HI H ((L, .lst acc) :: R) Dd → I i acc R Dd → acc.length ≤ i → g x (wipe σ vs) H fun σ2 H2 => wipe σ2 vs = wipe σ vs ∧ tt σ2 H2 fun b H3 => if b = true then te σ2 H3 (LE L I (i + 1)) else PW' L I (i + 1) H3)
    (hd : ∀ L acc R Dd H, HI H ((L, .lst acc) :: R) Dd → I xs.length acc R Dd → acc.length ≤ xs.length → Q (.ref L) H) : LcK (Itl K a) g tt te vs σ H Q :=
  lc_hi walk_list I hi h0 (fun i acc R Dd H _ q p => SqL.of (q.dat (hl i acc R Dd p))) (fun L i acc x R Dd H H' hn a b c y => by
    obtain ⟨rfl, y⟩ := y
    exact hs L i acc x R Dd H' y a b c) hd
end
end Wk
set_option maxRecDepth 100000
set_option maxHeartbeats 4000000
namespace Wk
open PySem PySem.Spec PyProof.Rows L2
/-- the base class at B -/
structure ExB (K : PySem.W.Frag) (mg : Str → Option Value) (n : Str) (B : Addr) : Prop where
  g : mg n = some (.ref B)
  rd : PySem.W.readsIn K B (.type "type") = true
  sp : PySem.W.specialIn K (.ref B) "__getattribute__" = some (some (.builtin "type.__getattribute__"))
  vV : PySem.W.findCls K (.ref B) (.type "type") "__init__" = some (.val (.builtin "ValueError.__init__"))
/-- an own exception class at C, its __init__ at fI -/
structure ExK (K : PySem.W.Frag) (mg : Str → Option Value) (n : Str) (C fI : Addr) : Prop where
  g : mg n = some (.ref C)
  T : OexC K C
  E : ExcC K C
  iC : PySem.W.findIn K (.ref C) "__init__" = some (some (.ref fI))
  tI : PySem.W.typeIn K (.ref fI) = some (.type "function")
  no : PySem.W.findIn K (.ref C) "found" = some none
def isVal (o : Option PySem.W.CFound) (n : String) : Bool := match o with
  | some (.val (.builtin x)) => x == n
  | _ => false
theorem isVal_ok {o : Option PySem.W.CFound} {n : String} (h : isVal o n = true) : o = some (.val (.builtin n)) := by
  unfold isVal at h
  split at h
  · rw [beq_iff_eq.mp h]
  · cases h
def exbB (n : Str) (K : PySem.W.Frag) : Bool := PySem.W.readsIn K (He.ga K n) (.type "type") && (He.eqO (PySem.W.specialIn K (.ref (He.ga K n)) "__getattribute__") (some (some (.builtin "type.__getattribute__"))) && isVal (PySem.W.findCls K (.ref (He.ga K n)) (.type "type") "__init__") "ValueError.__init__")
def oexB (K : PySem.W.Frag) (C : Addr) : Bool := match K.lookup C with
  | some ⟨.type "type", _, .cls cd, sl⟩ => (match cd.mro, sl.toList with
    | .ref C' :: bm, [_, _, _, _, some (.builtin n), _] => C' == C && (n == "ValueError.__new__" && (!cd.hasDel && (cd.hasDict && PySem.HandSPX.refsVE bm)))
    | _, _ => false)
  | _ => false
def eqB (a b : Option Bool) : Bool := decide (a = b)
def eqV (a b : Option Value) : Bool := decide (a = b)
def exkB (n : Str) (K : PySem.W.Frag) : Bool :=
  let C := He.ga K n
  oexB K C && (He.eqO (PySem.W.findIn K (.ref C) "__setattr__") (some (some (.builtin "object.__setattr__"))) && (eqB (PySem.W.subIn K (.ref C) (.type "BaseException")) (some true) && (eqV (PySem.W.typeIn K (.ref C)) (some (.type "type")) && (PySem.W.keepIn K (.ref C) &&
  (He.eqO (PySem.W.findIn K (.ref C) "__getattribute__") (some (some (.builtin "BaseException.__getattribute__"))) && (He.eqO (PySem.W.findIn K (.ref C) "__getattr__") (some none) && (PySem.W.hasDictIn K C &&
  (He.eqO (PySem.W.findIn K (.ref C) "__class__") (some (some (.builtin "object.__class__"))) && (He.eqO (PySem.W.specialIn K (.builtin "object.__class__") "__get__") (some (some (.builtin "getset_descriptor.__get__"))) && (eqB (PySem.W.takesIn K (.builtin "object.__class__")) (some true) && (eqB (PySem.W.mroIn K C (.type "object")) (some true) &&
  (He.eqO (PySem.W.findIn K (.ref C) "__init__") (some (some (.ref (He.ma K C "__init__")))) && (eqV (PySem.W.typeIn K (.ref (He.ma K C "__init__"))) (some (.type "function")) && He.eqO (PySem.W.findIn K (.ref C) "found") (some none))))))))))))))
section
variable {K : PySem.W.Frag} {h : Heap} {mg : Str → Option Value}
theorem oexB_ok {C : Addr} (q : oexB K C = true) : ∃ nm q N bs bm sn sub ab col dd k0 k1 k2 k3 k5, K.lookup C = some (excClassObj nm q C N bs bm true sn sub ab col dd k0 k1 k2 k3 k5 "ValueError.__new__") ∧ PySem.HandSPX.refsVE bm = true := by
  unfold oexB at q
  split at q
  · rename_i dd cd sl ho
    split at q
    · rename_i C' bm k0 k1 k2 k3 n k5 hm hs
      simp only [Bool.and_eq_true, beq_iff_eq, Bool.not_eq_true'] at q
      obtain ⟨rfl, rfl, hdel, hd, ht⟩ := q
      obtain ⟨nm, bs, mro, ns, qn, hdc, sn, sub, ab, col, del⟩ := cd
      dsimp only at hm hdel hd
      subst hm hdel hd
      have hsl : sl = #[k0, k1, k2, k3, some (.builtin "ValueError.__new__"), k5] := by
        obtain ⟨l⟩ := sl
        simp only at hs
        rw [hs]
      subst hsl
      exact ⟨nm, qn, ns, bs, bm, sn, sub, ab, col, dd, k0, k1, k2, k3, k5, ho, ht⟩
    · cases q
  · cases q
theorem exb_ok (X : K.In h) (G : h.Ns mainGlobals mg) {n : Str} (c1 : (He.Fa.glo n).ok K = true) (c : exbB n K = true) : ExB K mg n (He.ga K n) := by
  obtain ⟨a, c⟩ := He.ba c
  obtain ⟨b, d⟩ := He.ba c
  exact ⟨He.glo_ok X G c1, a, He.eqO_ok b, isVal_ok d⟩
theorem exk_ok (X : K.In h) (G : h.Ns mainGlobals mg) {n : Str} (c1 : (He.Fa.glo n).ok K = true) (c : exkB n K = true) : ExK K mg n (He.ga K n) (He.ma K (He.ga K n) "__init__") := by
  obtain ⟨a1, c⟩ := He.ba c
  obtain ⟨a2, c⟩ := He.ba c
  obtain ⟨a3, c⟩ := He.ba c
  obtain ⟨a4, c⟩ := He.ba c
  obtain ⟨a5, c⟩ := He.ba c
  obtain ⟨a6, c⟩ := He.ba c
  obtain ⟨a7, c⟩ := He.ba c
  obtain ⟨a8, c⟩ := He.ba c
  obtain ⟨a9, c⟩ := He.ba c
  obtain ⟨a10, c⟩ := He.ba c
  obtain ⟨a11, c⟩ := He.ba c
  obtain ⟨a12, c⟩ := He.ba c
  obtain ⟨a13, c⟩ := He.ba c
  obtain ⟨a14, a15⟩ := He.ba c
  exact ⟨He.glo_ok X G c1, ⟨oexB_ok a1, He.eqO_ok a2, of_decide_eq_true a3, of_decide_eq_true a4, a5⟩, ⟨He.eqO_ok a6, He.eqO_ok a7, of_decide_eq_true a3, a8, He.eqO_ok a9, He.eqO_ok a10, of_decide_eq_true a11, of_decide_eq_true a12⟩, He.eqO_ok a13, of_decide_eq_true a14, He.eqO_ok a15⟩
end
section
variable {X : Cx} {o e : Expr} {es : List Expr} {to te : TE} {ta : TA} {f : Str} {p p' p1 p2 pos : Pos} {C fI B : Addr} {n x : Str}
/-- B.__init__(self, ..), B an own class without an __init__ of its own -/
theorem pe_binit {pl : Sem Bool} (T : ExB X.K X.mg n B) (hg : Gl X n) (ha : PA X (e :: es) ta) (hdb : (n == ("__debug__" : Str)) = false := by decide)
    (hc : eval (.Call (.Attribute (.Name n p1) "__init__" p2) (e :: es) [] pos) X.env = (do
      let ov ← eval (.Name n p1) X.env
      standAt p2.atName
      let (f, first) ← holding [ov] (getMethod ov "__init__" pl)
      callWith pos f first (backTo pos (starEach (e :: es) X.env)) (backToKw pos (keywordEach [] X.env))) := by rfl)
    (he : starEach (e :: es) X.env = (false, eval e X.env) :: starEach es X.env := by rfl) (hpl : (backTo pos (starEach es X.env)).any (·.1) = false := by rfl) :
    PE X (.Call (.Attribute (.Name n p1) "__init__" p2) (e :: es) [] pos) (tVeI X.K ta) := by
  refine ⟨fun pins s σ H Q I h => ?_⟩
  refine PySem.W.methodCall_KW (ld_glob I hg T.g ?_ hdb) hc
  refine PySem.W.method_cls I.kIn T.sp ?_
  refine PySem.W.cls_value I.kIn T.rd T.vV (by decide +kernel) ?_
  show wpAny _ _ (callWith pos (Value.builtin "ValueError.__init__") [] (backTo pos (starEach (e :: es) X.env)) []) _ _ _
  refine PyProof.Rows.callWith_method1 (thn (ha.run pos pins _ σ H _ (I.tok _) h) fun us s1 ⟨vs, H1, I1, r1, a, C, ws, ev, hl, T, ea, q⟩ => ?_) he hpl
  subst ev
  cases r1 with
  | @cons _ u0 _ ur ra rw' =>
    obtain rfl : u0 = Value.ref a := ra
    have hlen : ur.length ≤ sizeLine := by
      rw [← Paired.length rw', sizeLine_eq]
      omega
    exact oinit_ok T I1 ea hlen fun s' J => ⟨.non, H1, J, rfl, q⟩
end
/-- __init__(self, found) -/
def spInit (K : PySem.W.Frag) (C : Addr) : Sp := fun vs H Q _ => ∃ (a : Addr) (v : V), vs = [.ref a, v] ∧ OexC K C ∧ PySem.W.findIn K (.ref C) "found" = some none ∧ H a = some (exo a C none) ∧
  ∀ d, H d = none → d ≠ a → Q .non (upd (upd H d (exd d [(("found" : Str), v)])) a (exo a C (some d)))
theorem spInit_len {K : PySem.W.Frag} {C : Addr} {vs : List V} {H : Hp} {Q : VK} {E : XK} (h : spInit K C vs H Q E) : vs.length = (["self", "found"] : List Str).length := by
  obtain ⟨a, v, rfl, _⟩ := h
  rfl
theorem init_plain {K : PySem.W.Frag} {C : Addr} {z : Str} {vs : List V} {H : Hp} {Q : VK} {E : XK} (h : spInit K C vs H Q E) :
    tSeq (tDrop (tVeI K (tCons (tVar 0) (tCons (tC (.str z)) tNil)))) (tOst K "found" (tVar 0) (tVar 1)) { nx := fun _ H' => Q .non H', rt := Q } (start ["self", "found"] vs) H := by
  obtain ⟨a, v, rfl, T, no, ea, k⟩ := h
  exact ⟨_, rfl, a, C, [.str z], rfl, (show 1 ≤ 1000 by decide), T, ea, ⟨_, rfl, _, rfl, a, C, rfl, T, no, .inl ⟨ea, k⟩⟩⟩
/-- C(e) -/
def tMkE (C : Addr) (ta : TA) : TE := fun σ H Q => ta σ H fun vs H1 => ∃ v, vs = [v] ∧ ∀ a d, H1 a = none → H1 d = none → d ≠ a → Q (.ref a) (upd (upd H1 d (exd d [(("found" : Str), v)])) a (exo a C (some d)))
theorem upd_swap {H : Hp} {a b : Addr} {o u : HO} (h : a ≠ b) : upd (upd H a o) b u = upd (upd H b u) a o := by
  funext c
  by_cases h1 : c = a
  · subst h1
    rw [upd_ne h, upd_same, upd_same]
  · by_cases h2 : c = b
    · subst h2
      rw [upd_same, upd_ne h1, upd_same]
    · rw [upd_ne h2, upd_ne h1, upd_ne h1, upd_ne h2]
theorem upd_end {H : Hp} {a d : Addr} {o o' u : HO} (h : d ≠ a) : upd (upd (upd H a o) d u) a o' = upd (upd H d u) a o' := by
  rw [upd_swap h.symm, upd_upd]
/-- what init leaves, seen from the maker -/
theorem init_use {K : PySem.W.Frag} {mg : Str → Option Value} {n : Str} {C fI a : Addr} {v : V} {H : Hp} {Q : VK} {E : XK} (T : ExK K mg n C fI) (h : ∀ d, H d = none → d ≠ a → Q .non (upd (upd H d (exd d [(("found" : Str), v)])) a (exo a C (some d)))) :
    spInit K C [.ref a, v] (upd H a (exo a C none)) Q E :=
  ⟨a, v, rfl, T.T, T.no, upd_same, fun d hd ne => by
    rw [upd_end ne]
    rw [upd_ne ne] at hd
    exact h d hd ne⟩
section
variable {X : Cx} {e : Expr} {te : TE} {ta : TA} {p pos : Pos} {C fI : Addr} {n : Str} {k : Nat}
/-- the call itself -/
theorem run_exc {pins : List (Addr × Obj)} {σ : L2.St} {H1 : Hp} {s1 : Shared} {v : V} {u : Value} {Q : Value → Shared → Prop} (T : ExK X.K X.mg n C fI) (F1 : FnOk X.prog X.w X.K X.mg X.base CX0 k fI (fdOf X.K fI) ["self", "found"] (spInit X.K C)) (hb : Binds X.K (fdOf X.K fI) ["self", "found"] []) (hr : Room (k + 1) X.A)
    (I1 : Inv X pins σ H1 s1) (rv : RelV v u) (q : ∀ (a d : Addr) (hp2 h2 : Heap) (g2 : Array GenState) (d2 : Drawn) (t2 : Nat) (os2 : OsState), H1 a = none → H1 d = none → d ≠ a → s1.heap.objs.size ≤ a → (∀ b o, s1.heap.get? b = some o → hp2.get? b = some o) →
      Un (frs X.stack) [] (upd H1 a (exo a C none)) (upd (upd H1 d (exd d [(("found" : Str), v)])) a (exo a C (some d))) hp2 h2 → HOk X.prog X.w (upd (upd H1 d (exd d [(("found" : Str), v)])) a (exo a C (some d))) h2 → os2 = s1.os → AllBare g2 →
      Inv X pins σ (upd (upd H1 d (exd d [(("found" : Str), v)])) a (exo a C (some d))) ⟨h2, g2, d2, t2, os2⟩ → Q (.ref a) ⟨h2, g2, d2, t2, os2⟩) :
    wpAny (model X.prog X.w) X.A (call (.ref C) [u]) Q X.xe s1 := by
  obtain ⟨nm, qq, N, bs, bm, sn, sub, ab, col, dd, k0, k1, k2, k3, k5, hC, hbm⟩ := T.T.cls
  obtain ⟨hp, g, dr, tk, os⟩ := s1
  have hsz : hp.objs.size ≤ hp.objs.size + 1 := Nat.le_succ _
  have hn : H1 (hp.objs.size + 1) = none := I1.hok.fresh hsz
  have kk : ∀ b o, hp.get? b = some o → ((hp.push (PySem.W.kdv_tup [u])).push (PySem.HandSPX.excO C hp.objs.size)).get? b = some o := fun b o e => Heap.get?_push_of_some _ (Heap.get?_push_of_some _ e)
  have hget : ((hp.push (PySem.W.kdv_tup [u])).push (PySem.HandSPX.excO C hp.objs.size)).get? (hp.objs.size + 1) = some (PySem.HandSPX.excO C hp.objs.size) := by heap_get
  have I2 : Inv X pins σ (upd H1 (hp.objs.size + 1) (exo (hp.objs.size + 1) C none)) ⟨(hp.push (PySem.W.kdv_tup [u])).push (PySem.HandSPX.excO C hp.objs.size), g, dr, tk, os⟩ :=
    I1.laid (t' := tk) (a := hp.objs.size + 1) (o := exo (hp.objs.size + 1) C none) (h' := (hp.push (PySem.W.kdv_tup [u])).push (PySem.HandSPX.excO C hp.objs.size)) kk hsz (exo_ok hget)
  have r2 : Vals [V.ref (hp.objs.size + 1), v] [Value.ref (hp.objs.size + 1), u] := .cons rfl (.cons rv .nil)
  have hus : [u].length ≤ sizeLine := by
    rw [sizeLine_eq]
    exact (by decide : 1 ≤ 16777216)
  have sp1 : spInit X.K C [.ref (hp.objs.size + 1), v] (upd H1 (hp.objs.size + 1) (exo (hp.objs.size + 1) C none)) (fun w H2 => w = .non ∧ ∃ d, H1 d = none ∧ d ≠ hp.objs.size + 1 ∧ H2 = upd (upd H1 d (exd d [(("found" : Str), v)])) (hp.objs.size + 1) (exo (hp.objs.size + 1) C (some d))) (fun _ _ _ => False) :=
    init_use T fun d hd ne => ⟨rfl, d, hd, ne, rfl⟩
  refine wpAny_call (PySem.HandSPX.call_own F.excBase_ValueError (fun Y => PySem.HandSPX.refsVE_contains Y bm hbm) (I1.kIn _ _ hC) (PySem.W.looks_findIn I1.kIn T.iC) (fun self => PySem.W.bind_fn I1.kIn self T.tI) hus
    (codeAny_mono (F1.run _ X.stack _ _ ⟨[Value.ref (hp.objs.size + 1), u], []⟩ [Value.ref (hp.objs.size + 1), u] _ _ (fun _ _ _ => False) (hr.make C [u] []) (I2.env0.make C [u] []) (hb _ [Value.ref (hp.objs.size + 1), u] I2.kIn rfl) r2 sp1) fun r s' hq' => ?_))
  cases r with
  | error er => exact hq'.elim
  | ok fl =>
    cases fl with
    | ret z =>
      have hq0 := hq'
      obtain ⟨w, H2, os2, bare2, un2, hok2, rw', ew, d, hd1, ne, e2⟩ := hq'
      subst ew e2
      obtain ⟨w', H3, J, rw2, ew2, d', hd', ne', e3⟩ := I2.after hq0
      subst ew2
      obtain ⟨h2, g2, d2, t2, os'⟩ := s'
      refine ⟨rw', q _ d _ h2 g2 d2 t2 os' hn hd1 ne hsz kk un2 hok2 os2 bare2 ?_⟩
      exact I2.call' (ch := []) os2 un2 hok2 bare2 (fun b z => absurd z (by simp))
    | next => exact False.elim hq'
    | brk => exact False.elim hq'
    | cont => exact False.elim hq'
/-- C(e), to be raised -/
def tMkX (C : Addr) (ta : TA) : L2.St → Hp → XK → Prop := fun σ H Q => ta σ H fun vs H1 => ∃ v, vs = [v] ∧ ∀ d, H1 d = none → Q (.ref C) (some d) (upd H1 d (.xd [(("found" : Str), v)]))
theorem pmk_X (T : ExK X.K X.mg n C fI) (F1 : FnOk X.prog X.w X.K X.mg X.base CX0 k fI (fdOf X.K fI) ["self", "found"] (spInit X.K C)) (hb : Binds X.K (fdOf X.K fI) ["self", "found"] []) (hr : Room (k + 1) X.A) (hg : Gl X n) (ha : PA X [e] ta)
    (hdb : (n == ("__debug__" : Str)) = false := by decide) (he : starEach [e] X.env = (false, eval e X.env) :: starEach [] X.env := by rfl) (hpl : (backTo pos (starEach [] X.env)).any (·.1) = false := by rfl) :
    PMk X (.Call (.Name n p) [e] [] pos) (tMkX C ta) := by
  intro pins s σ H Q I h
  refine wpAny_Call_Name_kw (ld_glob I hg T.g ?_ hdb)
  refine PySem.W.callWith_K (h₀ := X.base) I.ok.mod.kin T.T.kC (thn (ha.run pos pins s σ H _ I h) fun us s1 ⟨vs, H1, I1, r1, v, ev, q1⟩ => ⟨I1.kIn, ?_⟩) he hpl
  subst ev
  cases r1 with
  | @cons _ u _ us rv rn =>
    cases rn
    show wpAny _ _ (call (.ref C) [u]) _ _ _
    refine run_exc T F1 hb hr I1 rv fun a d hp2 h2 g2 d2 t2 os2 ha hd ne hsz kk un hok eo hb2 J => ?_
    obtain ⟨hp, g, dr, tk, os⟩ := s1
    refine mk_end (fs := [(("found" : Str), v)]) (hp2 := hp2) (os1 := os) (raises_own T.T.exC T.T.tyC) I1 hsz kk un hok eo hb2 upd_same (by rw [upd_ne ne, upd_same]) hd ?_
    have e1 : upd (del (upd (upd H1 d (exd d [(("found" : Str), v)])) a (exo a C (some d))) a) d (.xd [(("found" : Str), v)]) = upd H1 d (.xd [(("found" : Str), v)]) := by
      funext b
      by_cases h1 : b = d
      · rw [h1, upd_same, upd_same]
      · rw [upd_ne h1, upd_ne h1]
        by_cases h2 : b = a
        · rw [h2, del_same, ha]
        · rw [del_ne h2, upd_ne h2, upd_ne h1]
    rw [e1]
    exact q1 d hd
def tRaiseX (C : Addr) (W : L2.WX) (ta : TA) : TS := fun _ σ H => tMkX C ta σ H fun cls d H' => W cls d σ H'
theorem ps_raiseX {W : L2.WX} {pos2 : Pos} (hc : X.calm = true) (tk : Takes X W) (T : ExK X.K X.mg n C fI) (F1 : FnOk X.prog X.w X.K X.mg X.base CX0 k fI (fdOf X.K fI) ["self", "found"] (spInit X.K C)) (hb : Binds X.K (fdOf X.K fI) ["self", "found"] []) (hr : Room (k + 1) X.A) (hg : Gl X n) (ha : PA X [e] ta)
    (hdb : (n == ("__debug__" : Str)) = false := by decide) (he : starEach [e] X.env = (false, eval e X.env) :: starEach [] X.env := by rfl) (hpl : (backTo pos (starEach [] X.env)).any (·.1) = false := by rfl) :
    PS X (.Raise (some (.Call (.Name n p) [e] [] pos)) none pos2) (tRaiseX C W ta) := ps_raise hc tk (pmk_X T F1 hb hr hg ha hdb he hpl)
end
/-- the same over the heap in two parts -/
theorem mkE_use {H D : Hp} {R : List (Addr × HO)} {v : V} {C : Addr} {Q : VK} (h : HI H R D) (k : ∀ a d H' D', HI H' R D' → Ex D D' → D' a = some (exo a C (some d)) → D' d = some (exd d [(("found" : Str), v)]) → Q (.ref a) H') :
    ∃ w, [v] = [w] ∧ ∀ a d, H a = none → H d = none → d ≠ a → Q (.ref a) (upd (upd H d (exd d [(("found" : Str), w)])) a (exo a C (some d))) :=
  ⟨v, rfl, fun a d ha hd ne => by
    have h1 := h.newD (o := exd d [(("found" : Str), v)]) hd
    have ha1 : upd H d (exd d [(("found" : Str), v)]) a = none := by rw [upd_ne ne.symm]; exact ha
    have h2 := h1.newD (o := exo a C (some d)) ha1
    exact k a d _ _ h2 ((Ex.new (h.free hd)).trans (Ex.new (h1.free ha1))) upd_same (by rw [upd_ne ne, upd_same])⟩
theorem mkX_use {H D : Hp} {R : List (Addr × HO)} {v : V} {C : Addr} {E : XK} (h : HI H R D) (k : ∀ d H' D', HI H' R D' → Ex D D' → D' d = some (.xd [(("found" : Str), v)]) → E (.ref C) (some d) H') :
    ∃ w, [v] = [w] ∧ ∀ d, H d = none → E (.ref C) (some d) (upd H d (.xd [(("found" : Str), w)])) :=
  ⟨v, rfl, fun d hd => k d _ _ (h.newD hd) (Ex.new (h.free hd)) upd_same⟩
end Wk
set_option maxRecDepth 100000
set_option maxHeartbeats 4000000
namespace Wk
open PySem PySem.Spec PyProof.Rows L2
/-- at e: an exception of the class at C, its args at t1 -/
def exq (e C : Addr) (d : Option Addr) (t1 : Addr) : HO := .ext fun h => h.get? e = some ({ cls := .ref C, dict := d, data := .fields #[.ref t1, .none, .none, .none, .bool false, .none] } : Obj)
theorem exq_own {e C x t1 : Addr} {d : Option Addr} : exq e C d t1 ≠ .own x := fun z => by
  have z' : HO.ext _ = HO.own x := z
  cases z'
theorem exq_tup {e C t1 : Addr} {d : Option Addr} {xs : List V} : exq e C d t1 ≠ .tup xs := fun z => by
  have z' : HO.ext _ = HO.tup xs := z
  cases z'
theorem exq_frz {e C t1 : Addr} {d : Option Addr} {o : Obj} {u : HO} : exq e C d t1 ≠ .frz o u := fun z => by
  have z' : HO.ext _ = HO.frz o u := z
  cases z'
theorem exq_tbl {e C t1 : Addr} {d : Option Addr} {ps : Array Value} : exq e C d t1 ≠ .tbl ps := fun z => by
  have z' : HO.ext _ = HO.tbl ps := z
  cases z'
theorem exq_ok {P : Program} {w : World} {H : Hp} {h : Heap} {e C t1 : Addr} {d : Option Addr} (he : h.get? e = some ({ cls := .ref C, dict := d, data := .fields #[.ref t1, .none, .none, .none, .bool false, .none] } : Obj)) : ObjOk P w H h e (exq e C d t1) :=
  ⟨he, ⟨_, he⟩, fun h1 h2 z k => k _ z⟩
theorem exq_at {P : Program} {w : World} {H : Hp} {h : Heap} {e C t1 : Addr} {d : Option Addr} (hok : HOk P w H h) (he : H e = some (exq e C d t1)) : h.get? e = some ({ cls := .ref C, dict := d, data := .fields #[.ref t1, .none, .none, .none, .bool false, .none] } : Obj) := by
  have x : ObjOk P w H h e (.ext fun h => h.get? e = some ({ cls := .ref C, dict := d, data := .fields #[.ref t1, .none, .none, .none, .bool false, .none] } : Obj)) := hok e _ he
  exact x.1
section
variable {X : Cx} {pins : List (Addr × Obj)} {σ : L2.St} {H : Hp} {s : Shared} {a C dx t1 : Addr} {f : Str} {y : V} {u : Value} {fs : List (Str × V)} {E : Value → Shared → Prop} {A : Around}
/-- self.f = y, the first one -/
theorem ost_newQ {Q : Unit → Shared → Prop} (T : OexC X.K C) (I : Inv X pins σ H s) (e : H a = some (exq a C none t1)) (hno : PySem.W.findIn X.K (.ref C) f = some none) (ry : RelV y u)
    (h : ∀ dx s', H dx = none → dx ≠ a → Inv X pins σ (upd (upd H dx (exd dx [(f, y)])) a (exq a C (some dx) t1)) s' → Q () s') : wpAny (model X.prog X.w) A (setAttr (.ref a) f u) Q E s := by
  obtain ⟨nm, q, N, bs, bm, sn, sub, ab, col, dd, k0, k1, k2, k3, k5, hC, hbm⟩ := T.cls
  have hcl : PySem.W.clsIn X.K C = some { name := nm, bases := bs, mro := .ref C :: bm, ns := N, qualname := q, hasDict := true, slotNames := sn, subclasses := sub, abstract := ab, collection := col, hasDel := false } := by unfold PySem.W.clsIn; rw [hC] <;> rfl
  have ho := exq_at I.hok e
  obtain ⟨hp, g, d, t, os⟩ := s
  refine PySem.W.set_plain I.kIn (ox := { cls := .ref C, dict := none, data := .fields #[.ref t1, .none, .none, .none, .bool false, .none] }) (od := none) ⟨ho, rfl, rfl, trivial⟩ T.sa ?_
  refine PySem.HandSPX.exc_osa I.kIn ho hcl (show PySem.HandSPX.refsVE (.ref C :: bm) = true from hbm) rfl hno (fun h' tk' dx k dn dne hx hn => ?_)
  have hnd : H dx = none := I.hok.fresh dn
  have nd : ∀ {b : Addr} {o : Obj}, hp.get? b = some o → b ≠ dx := fun {b o} q => Nat.ne_of_lt (Nat.lt_of_lt_of_le (Heap.lt_size q) dn)
  have na : ∀ {b : Addr}, H b = none → b ≠ a := fun {b} n z => by
    rw [z, e] at n
    cases n
  have Un1 : Un X.fs [] H (upd (upd H dx (exd dx [(f, y)])) a (exq a C (some dx) t1)) hp h' := {
    keep := fun b o q n _ _ => k b o (na n) q
    slot := fun b o q n _ _ => ⟨o.slots, k b o (na n) q⟩
    free := fun b o q n _ => by rw [upd_ne (na n), upd_ne (nd q)]; exact n
    there := fun b o q _ => by
      by_cases hb : b = a
      · exact ⟨_, by rw [hb]; exact hx⟩
      · exact ⟨o, k b o hb q⟩
    tups := fun b xs q => by rw [upd_ne (at_ne e q exq_tup), upd_ne (ne_of_none q hnd)]; exact q
    frzs := fun b o v q => by rw [upd_ne (at_ne e q exq_frz), upd_ne (ne_of_none q hnd)]; exact q
    tbls := fun b ps q => ⟨#[], by rw [upd_ne (at_ne e q exq_tbl), upd_ne (ne_of_none q hnd), q]; simp⟩ }
  refine h dx _ hnd dne (I.un (t' := tk') Un1 fun b o q => ?_)
  by_cases hb : b = a
  · subst hb
    rw [upd_same] at q
    cases q
    exact exq_ok hx
  · rw [upd_ne hb] at q
    by_cases hd : b = dx
    · subst hd
      rw [upd_same] at q
      cases q
      exact exd_ok hn (relO_put (fs := []) ry fun g => True.intro)
    · rw [upd_ne hd] at q
      exact (I.hok b o q).stay (fun c v hc z => k c v (by
          rcases hc with hc | hc
          · rw [hc]
            exact hb
          · exact at_ne e hc exq_own) z)
        (fun c hc => by rw [upd_ne (at_ne e hc exq_own), upd_ne (ne_of_none hc hnd)]; exact hc) (fun c xs hc => by rw [upd_ne (at_ne e hc exq_tup), upd_ne (ne_of_none hc hnd)]; exact hc)
end
section
open PySem.W PySem.Calls PySem.HandSPX
variable {prog : Program} {w : World} {A : Around} {R : Result → Shared → Prop} {h : Heap} {g : Array GenState} {d : Drawn} {t : Nat} {os : OsState} {B newId initId : String} {bmB bm bs : List Value} {nm q : Str} {C N : Addr}
theorem init_baseQ {hdct : Bool} {sn : List Str} {sub : List Value} {ab col} {dd k0 k1 k2 k3 k5} (F : ExcBaseFacts B newId initId bmB) (hT : ∀ X : String, bm.contains (.type X) = bmB.contains (.type X)) {e t0 : Addr} {rest : List Value}
    (hC : h.get? C = some (excClassObj nm q C N bs bm hdct sn sub ab col dd k0 k1 k2 k3 k5 newId)) (he : h.get? e = some (excO C t0)) (hrest : rest.length ≤ sizeLine)
    (hq : ∀ h', (∀ b o, b ≠ e → (h.push (kdv_tup rest)).get? b = some o → h'.get? b = some o) → h'.get? e = some (excO C h.objs.size) → R (.ok (.ret .none)) ⟨h', g, d, t, os⟩) :
    codeAny (model prog w) A (.call (.builtin initId) ⟨.ref e :: rest, []⟩) R ⟨h, g, d, t, os⟩ := by
  refine codeAny_call_builtin F.init.plain F.initEntry (check_init_own F hT hC he rfl ?_)
  wp_walk
  refine hq _ (fun b o hb ho => ?_) ?_
  · rw [Heap.get?_update_other _ _ (Ne.symm hb)]
    exact ho
  · rw [Heap.get?_update_self _ (Heap.get?_push_of_some _ he) rfl]
    rfl
end
section
variable {X : Cx} {pins : List (Addr × Obj)} {σ : L2.St} {H : Hp} {s : Shared} {a C dx t1 : Addr} {E : Value → Shared → Prop} {A : Around}
/-- ValueError.__init__(self, ..): the args are told -/
theorem oinit_okQ {us : List Value} {ws : List V} {Q : Value → Shared → Prop} (T : OexC X.K C) (I : Inv X pins σ H s) (e : H a = some (exo a C none)) (rv : Vals ws us) (hl : us.length ≤ sizeLine)
    (h : ∀ t1 s', H t1 = none → t1 ≠ a → Inv X pins σ (upd (upd H t1 (.tup ws)) a (exq a C none t1)) s' → Q .none s') :
    wpAny (model X.prog X.w) A (call (.builtin "ValueError.__init__") (.ref a :: us)) Q E s := by
  obtain ⟨nm, q, N, bs, bm, sn, sub, ab, col, dd, k0, k1, k2, k3, k5, hC, hbm⟩ := T.cls
  obtain ⟨t1, ho⟩ := exo_at I.hok e
  obtain ⟨hp, g, d, t, os⟩ := s
  refine wpAny_call (init_baseQ F.excBase_ValueError (fun Y => PySem.HandSPX.refsVE_contains Y bm hbm) (I.kIn _ _ hC) ho hl fun h' k hx => ?_)
  have hn : H hp.objs.size = none := I.hok.fresh (Nat.le_refl _)
  have hna : hp.objs.size ≠ a := fun z => by
    rw [z, e] at hn
    cases hn
  have J1 := I.laid (t' := t) (a := hp.objs.size) (o := .tup ws) (h' := hp.push (PySem.W.kdv_tup us)) (fun b u e => Heap.get?_push_of_some _ e) (Nat.le_refl _) ⟨by rw [rv.length]; exact hl, us, rv, ⟨_, Heap.get?_push_size _ rfl, rfl, _, rfl⟩⟩
  have e1 : upd H hp.objs.size (.tup ws) a = some (exo a C none) := by rw [upd_ne (Ne.symm hna)]; exact e
  exact h _ _ hn hna (J1.write (t' := t) (x := a) (e := a) (o := exq a C none hp.objs.size) (by rw [e1]; exact True.intro) (.inl rfl) k ⟨_, hx⟩ (exq_ok hx))
end
def tVeQ (K : PySem.W.Frag) (ta : TA) : TE := fun σ H Q => ta σ H fun vs H1 => ∃ (a C : Addr) (ws : List V), vs = .ref a :: ws ∧ ws.length ≤ 1000 ∧ OexC K C ∧ H1 a = some (exo a C none) ∧ ∀ t1, H1 t1 = none → t1 ≠ a → Q .non (upd (upd H1 t1 (.tup ws)) a (exq a C none t1))
def tOstQ (K : PySem.W.Frag) (f : Str) (to te : TE) : TS := fun D σ H => te σ H fun y H1 => to σ H1 fun x H2 => ∃ a C t1 : Addr, x = .ref a ∧ OexC K C ∧ PySem.W.findIn K (.ref C) f = some none ∧
  H2 a = some (exq a C none t1) ∧ ∀ dx, H2 dx = none → dx ≠ a → D.nx σ (upd (upd H2 dx (exd dx [(f, y)])) a (exq a C (some dx) t1))
section
variable {X : Cx} {o e : Expr} {es : List Expr} {to te : TE} {ta : TA} {f : Str} {p p' p1 p2 pos : Pos} {C fI B : Addr} {n x : Str}
theorem pe_binitQ {pl : Sem Bool} (T : ExB X.K X.mg n B) (hg : Gl X n) (ha : PA X (e :: es) ta) (hdb : (n == ("__debug__" : Str)) = false := by decide)
    (hc : eval (.Call (.Attribute (.Name n p1) "__init__" p2) (e :: es) [] pos) X.env = (do
      let ov ← eval (.Name n p1) X.env
      standAt p2.atName
      let (f, first) ← holding [ov] (getMethod ov "__init__" pl)
      callWith pos f first (backTo pos (starEach (e :: es) X.env)) (backToKw pos (keywordEach [] X.env))) := by rfl)
    (he : starEach (e :: es) X.env = (false, eval e X.env) :: starEach es X.env := by rfl) (hpl : (backTo pos (starEach es X.env)).any (·.1) = false := by rfl) :
    PE X (.Call (.Attribute (.Name n p1) "__init__" p2) (e :: es) [] pos) (tVeQ X.K ta) := by
  refine ⟨fun pins s σ H Q I h => ?_⟩
  refine PySem.W.methodCall_KW (ld_glob I hg T.g ?_ hdb) hc
  refine PySem.W.method_cls I.kIn T.sp ?_
  refine PySem.W.cls_value I.kIn T.rd T.vV (by decide +kernel) ?_
  show wpAny _ _ (callWith pos (Value.builtin "ValueError.__init__") [] (backTo pos (starEach (e :: es) X.env)) []) _ _ _
  refine PyProof.Rows.callWith_method1 (thn (ha.run pos pins _ σ H _ (I.tok _) h) fun us s1 ⟨vs, H1, I1, r1, a, C, ws, ev, hl, T, ea, q⟩ => ?_) he hpl
  subst ev
  cases r1 with
  | @cons _ u0 _ ur ra rw' =>
    obtain rfl : u0 = Value.ref a := ra
    have hlen : ur.length ≤ sizeLine := by
      rw [← Paired.length rw', sizeLine_eq]
      omega
    exact oinit_okQ T I1 ea rw' hlen fun t1 s' n ne J => ⟨.non, _, J, rfl, q t1 n ne⟩
theorem ps_ostQ (ho : PE X o to) (he : PE X e te) (hs : swapsWith e (some (.Attribute o f p')) pos.line X.env = pure false := by rfl) : PS X (.Assign [.Attribute o f p'] e pos) (tOstQ X.K f to te) := by
  refine ⟨fun pins s σ H D I h => ?_⟩
  refine plainObj_wpAny_Assign_Attribute (thn (he.run pins s σ H _ I h) fun v s1 ⟨y, H1, I1, r1, q1⟩ => thn (ho.run pins s1 σ H1 _ I1 q1) fun u s2 ⟨x, H2, I2, r2, a, C, t1, ex, T, hno, ea, q⟩ => ?_) hs
  subst ex
  obtain rfl : u = Value.ref a := r2
  exact ost_newQ T I2 ea hno r1 fun dx s' n ne J => ⟨σ, _, J, q dx n ne⟩
end
/-- what is made: the args, the dict, the exception -/
def mkd (a C d t1 : Addr) (z : Str) (v : V) (H : Hp) : Hp := upd (upd (upd H t1 (.tup [.str z])) d (exd d [(("found" : Str), v)])) a (exq a C (some d) t1)
/-- __init__(self, found) -/
def spInitQ (K : PySem.W.Frag) (C : Addr) (z : Str) : Sp := fun vs H Q _ => ∃ (a : Addr) (v : V), vs = [.ref a, v] ∧ OexC K C ∧ PySem.W.findIn K (.ref C) "found" = some none ∧ H a = some (exo a C none) ∧
  ∀ t1 d, H t1 = none → t1 ≠ a → H d = none → d ≠ a → d ≠ t1 → Q .non (mkd a C d t1 z v H)
theorem spInitQ_len {K : PySem.W.Frag} {C : Addr} {z : Str} {vs : List V} {H : Hp} {Q : VK} {E : XK} (h : spInitQ K C z vs H Q E) : vs.length = (["self", "found"] : List Str).length := by
  obtain ⟨a, v, rfl, _⟩ := h
  rfl
theorem init_plainQ {K : PySem.W.Frag} {C : Addr} {z : Str} {vs : List V} {H : Hp} {Q : VK} {E : XK} (h : spInitQ K C z vs H Q E) :
    tSeq (tDrop (tVeQ K (tCons (tVar 0) (tCons (tC (.str z)) tNil)))) (tOstQ K "found" (tVar 0) (tVar 1)) { nx := fun _ H' => Q .non H', rt := Q } (start ["self", "found"] vs) H := by
  obtain ⟨a, v, rfl, T, no, ea, k⟩ := h
  refine ⟨_, rfl, a, C, [.str z], rfl, (show 1 ≤ 1000 by decide), T, ea, fun t1 n1 ne1 => ⟨_, rfl, _, rfl, a, C, t1, rfl, T, no, upd_same, fun dx nd ned => ?_⟩⟩
  rw [upd_ne ned] at nd
  have ndt : dx ≠ t1 := fun z => by
    rw [z, upd_same] at nd
    cases nd
  rw [upd_ne ndt] at nd
  rw [upd_end ned]
  exact k t1 dx n1 ne1 nd ned ndt
section
variable {X : Cx} {e : Expr} {te : TE} {ta : TA} {p pos : Pos} {C fI : Addr} {n z : Str} {k : Nat}
theorem run_excQ {pins : List (Addr × Obj)} {σ : L2.St} {H1 : Hp} {s1 : Shared} {v : V} {u : Value} {Q : Value → Shared → Prop} (T : ExK X.K X.mg n C fI) (F1 : FnOk X.prog X.w X.K X.mg X.base CX0 k fI (fdOf X.K fI) ["self", "found"] (spInitQ X.K C z)) (hb : Binds X.K (fdOf X.K fI) ["self", "found"] []) (hr : Room (k + 1) X.A)
    (I1 : Inv X pins σ H1 s1) (rv : RelV v u) (q : ∀ (a d t1 : Addr) (s2 : Shared), H1 a = none → H1 d = none → H1 t1 = none → d ≠ a → t1 ≠ a → d ≠ t1 → Inv X pins σ (mkd a C d t1 z v H1) s2 → Q (.ref a) s2) :
    wpAny (model X.prog X.w) X.A (call (.ref C) [u]) Q X.xe s1 := by
  obtain ⟨nm, qq, N, bs, bm, sn, sub, ab, col, dd, k0, k1, k2, k3, k5, hC, hbm⟩ := T.T.cls
  obtain ⟨hp, g, dr, tk, os⟩ := s1
  have hsz : hp.objs.size ≤ hp.objs.size + 1 := Nat.le_succ _
  have hn : H1 (hp.objs.size + 1) = none := I1.hok.fresh hsz
  have kk : ∀ b o, hp.get? b = some o → ((hp.push (PySem.W.kdv_tup [u])).push (PySem.HandSPX.excO C hp.objs.size)).get? b = some o := fun b o e => Heap.get?_push_of_some _ (Heap.get?_push_of_some _ e)
  have hget : ((hp.push (PySem.W.kdv_tup [u])).push (PySem.HandSPX.excO C hp.objs.size)).get? (hp.objs.size + 1) = some (PySem.HandSPX.excO C hp.objs.size) := by heap_get
  have I2 : Inv X pins σ (upd H1 (hp.objs.size + 1) (exo (hp.objs.size + 1) C none)) ⟨(hp.push (PySem.W.kdv_tup [u])).push (PySem.HandSPX.excO C hp.objs.size), g, dr, tk, os⟩ :=
    I1.laid (t' := tk) (a := hp.objs.size + 1) (o := exo (hp.objs.size + 1) C none) (h' := (hp.push (PySem.W.kdv_tup [u])).push (PySem.HandSPX.excO C hp.objs.size)) kk hsz (exo_ok hget)
  have r2 : Vals [V.ref (hp.objs.size + 1), v] [Value.ref (hp.objs.size + 1), u] := .cons rfl (.cons rv .nil)
  have hus : [u].length ≤ sizeLine := by
    rw [sizeLine_eq]
    exact (by decide : 1 ≤ 16777216)
  have sp1 : spInitQ X.K C z [.ref (hp.objs.size + 1), v] (upd H1 (hp.objs.size + 1) (exo (hp.objs.size + 1) C none)) (fun w H2 => w = .non ∧ ∃ d t1, H1 d = none ∧ H1 t1 = none ∧ d ≠ hp.objs.size + 1 ∧ t1 ≠ hp.objs.size + 1 ∧ d ≠ t1 ∧ H2 = mkd (hp.objs.size + 1) C d t1 z v H1) (fun _ _ _ => False) :=
    ⟨_, v, rfl, T.T, T.no, upd_same, fun t1 d n1 ne1 nd ned ndt => ⟨rfl, d, t1, (upd_ne ned).symm.trans nd, (upd_ne ne1).symm.trans n1, ned, ne1, ndt, by
      unfold mkd
      rw [upd_swap (Ne.symm ne1), upd_end ned]⟩⟩
  refine wpAny_call (PySem.HandSPX.call_own F.excBase_ValueError (fun Y => PySem.HandSPX.refsVE_contains Y bm hbm) (I1.kIn _ _ hC) (PySem.W.looks_findIn I1.kIn T.iC) (fun self => PySem.W.bind_fn I1.kIn self T.tI) hus
    (codeAny_mono (F1.run _ X.stack _ _ ⟨[Value.ref (hp.objs.size + 1), u], []⟩ [Value.ref (hp.objs.size + 1), u] _ _ (fun _ _ _ => False) (hr.make C [u] []) (I2.env0.make C [u] []) (hb _ [Value.ref (hp.objs.size + 1), u] I2.kIn rfl) r2 sp1) fun r s' hq' => ?_))
  cases r with
  | error er => exact hq'.elim
  | ok fl =>
    cases fl with
    | ret zz =>
      have hq0 := hq'
      obtain ⟨w, H2, os2, bare2, un2, hok2, rw', ew, _⟩ := hq'
      subst ew
      obtain ⟨w', H3, J, rw2, ew2, d', t', hd', ht', ne1, ne2, ne3, e3⟩ := I2.after hq0
      subst ew2
      subst e3
      exact ⟨rw', q _ d' t' _ hn hd' ht' ne1 ne2 ne3 J⟩
    | next => exact False.elim hq'
    | brk => exact False.elim hq'
    | cont => exact False.elim hq'
/-- C(e) -/
def tMkQ (C : Addr) (z : Str) (ta : TA) : TE := fun σ H Q => ta σ H fun vs H1 => ∃ v, vs = [v] ∧ ∀ a d t1, H1 a = none → H1 d = none → H1 t1 = none → d ≠ a → t1 ≠ a → d ≠ t1 → Q (.ref a) (mkd a C d t1 z v H1)
theorem pe_mkQ (T : ExK X.K X.mg n C fI) (F1 : FnOk X.prog X.w X.K X.mg X.base CX0 k fI (fdOf X.K fI) ["self", "found"] (spInitQ X.K C z)) (hb : Binds X.K (fdOf X.K fI) ["self", "found"] []) (hr : Room (k + 1) X.A) (hg : Gl X n) (ha : PA X [e] ta)
    (hdb : (n == ("__debug__" : Str)) = false := by decide) (he : starEach [e] X.env = (false, eval e X.env) :: starEach [] X.env := by rfl) (hpl : (backTo pos (starEach [] X.env)).any (·.1) = false := by rfl) :
    PE X (.Call (.Name n p) [e] [] pos) (tMkQ C z ta) := by
  refine ⟨fun pins s σ H Q I h => ?_⟩
  refine wpAny_Call_Name_kw (ld_glob I hg T.g ?_ hdb)
  refine PySem.W.callWith_K (h₀ := X.base) I.ok.mod.kin T.T.kC (thn (ha.run pos pins s σ H _ I h) fun us s1 ⟨vs, H1, I1, r1, v, ev, q1⟩ => ⟨I1.kIn, ?_⟩) he hpl
  subst ev
  cases r1 with
  | @cons _ u _ us rv rn =>
    cases rn
    show wpAny _ _ (call (.ref C) [u]) _ _ _
    exact run_excQ T F1 hb hr I1 rv fun a d t1 s2 ha hd ht n1 n2 n3 J => ⟨.ref a, _, J, rfl, q1 a d t1 ha hd ht n1 n2 n3⟩
end
/-- the same over the heap in two parts -/
def MkQP (C : Addr) (z : Str) (vs : List V) (H : Hp) (Q : VK) : Prop := ∃ v, vs = [v] ∧ ∀ a d t1, H a = none → H d = none → H t1 = none → d ≠ a → t1 ≠ a → d ≠ t1 → Q (.ref a) (mkd a C d t1 z v H)
theorem se_mkQ {C : Addr} {z : Str} {ta : TA} {σ : L2.St} {H : Hp} {Q : VK} (h : ta σ H fun vs H1 => MkQP C z vs H1 Q) : tMkQ C z ta σ H Q := h
theorem mkQ_now {H D : Hp} {R : List (Addr × HO)} {v : V} {C : Addr} {z : Str} {Q : VK} (h : HI H R D) (k : ∀ a d t1 H' D', HI H' R D' → Ex D D' → D' a = some (exq a C (some d) t1) → D' d = some (exd d [(("found" : Str), v)]) → D' t1 = some (.tup [.str z]) → Q (.ref a) H') : MkQP C z [v] H Q :=
  ⟨v, rfl, fun a d t1 ha hd ht n1 n2 n3 => by
    have h0 := h.newD (o := .tup [.str z]) ht
    have hd1 : upd H t1 (.tup [.str z]) d = none := by rw [upd_ne n3]; exact hd
    have h1 := h0.newD (o := exd d [(("found" : Str), v)]) hd1
    have ha1 : upd (upd H t1 (.tup [.str z])) d (exd d [(("found" : Str), v)]) a = none := by rw [upd_ne n1.symm, upd_ne n2.symm]; exact ha
    have h2 := h1.newD (o := exq a C (some d) t1) ha1
    exact k a d t1 _ _ h2 ((Ex.new (h.free ht)).trans ((Ex.new (h0.free hd1)).trans (Ex.new (h1.free ha1)))) upd_same (by rw [upd_ne n1, upd_same]) (by rw [upd_ne n2, upd_ne n3.symm, upd_same])⟩
end Wk
set_option maxRecDepth 100000
set_option maxHeartbeats 4000000
namespace Wk
namespace LE
open PySem PySem.Spec PyProof.Rows L2
open Builtin Builtin.ObjectAttr PySem.HandSPX
abbrev tailL : List Value := [.type "LookupError", .type "Exception", .type "BaseException", .type "object"]
structure OexL (K : PySem.W.Frag) (C : Addr) : Prop where
  init : PySem.W.excInitIn K C tailL "LookupError.__new__" = true
  over : PySem.W.excOver K C tailL = true
  tk : PySem.W.takerIn K C ("found" : Str) = some none
  hd : PySem.W.hasDictIn K C = true
  sa : PySem.W.findIn K (.ref C) "__setattr__" = some (some (.builtin "object.__setattr__"))
  exC : PySem.W.subIn K (.ref C) (.type "BaseException") = some true
  tyC : PySem.W.typeIn K (.ref C) = some (.type "type")
  kC : PySem.W.keepIn K (.ref C) = true
section
variable {prog : Program} {w : World} {A : Around} {R : Result → Shared → Prop} {hp : Heap} {g : Array GenState} {d : Drawn} {t : Nat} {os : OsState}
/-- self.found = v, the first store -/
theorem osaL {K : PySem.W.Frag} {tk : Tok} {v : Value} {x C : Addr} {fv : Array Value} (T : OexL K C)
    (X : K.In hp) (hx : hp.get? x = some { cls := .ref C, data := .fields fv })
    (hq : ∀ h' tk' dx, (∀ b o, b ≠ x → hp.get? b = some o → h'.get? b = some o) → hp.objs.size ≤ dx → dx ≠ x → h'.get? x = some { cls := .ref C, dict := some dx, data := .fields fv } →
      h'.Ns1 dx (fun y => if y = ("found" : Str) then some v else none) → R (.ok (.ret .none)) ⟨h', g, d, tk', os⟩) :
    codeAny (model prog w) A (.call (.builtin "object.__setattr__") ⟨[.ref x, .str "found" tk, v], []⟩) R ⟨hp, g, d, t, os⟩ := by
  have I : PySem.W.InstAt hp x { cls := .ref C, data := .fields fv } C none := ⟨hx, rfl, rfl, trivial⟩
  refine PySem.W.osa_openX (s := ⟨hp, g, d, t, os⟩) F.store_LookupError X I T.over T.tk (fun b => ?_)
  obtain ⟨cd, hc, hd'⟩ := PySem.W.any_some T.hd
  have hcls : PySem.W.Looks (model prog w) hp (classData C) cd := PySem.W.looks_clsIn X hc
  have hxs : x ≠ hp.objs.size := Nat.ne_of_lt (Heap.lt_size hx)
  obtain ⟨nm, bs, mro, ns, qn, hd, sn, sb, ab, col, del⟩ := cd
  have hd2 : hd = true := hd'
  subst hd2
  show wpAny _ _ (storeInOwnDict (.ref x) (.ref C) (.str "found" tk) "found" v b) _ _ _
  unfold storeInOwnDict ownDictForStores
  repeat (first | with_reducible refine store_in_new ?_ ?_ | with_reducible refine wpAny_loadPart_at hx ?_ | with_reducible refine hcls.at ?_ | wp_step)
  · exact ⟨_, #[], _, (Heap.get?_update_ne _ _ _ _ hxs.symm).trans (Heap.get?_push_at rfl rfl), rfl, fun e he => absurd he (by simp), fun _ => rfl⟩
  · intro h' tk' hn' hs
    have hx1 : (hp.push { cls := .type "dict", data := .dict #[] }).get? x = some { cls := .ref C, data := .fields fv } := Heap.get?_push_of_some _ hx
    refine hq h' tk' hp.objs.size (fun b o hb ho => ?_) (Nat.le_refl _) hxs.symm ?_ hn'
    · exact (hs.2 b (Nat.ne_of_lt (Heap.lt_size ho))).trans ((Heap.get?_update_ne _ _ _ _ hb).trans (Heap.get?_push_of_some _ ho))
    · exact (hs.2 x hxs).trans (Heap.get?_update_self _ hx1 rfl)
end
section
variable {X : Cx} {pins : List (Addr × Obj)} {σ : L2.St} {H : Hp} {s : Shared} {a C : Addr} {y : V} {u : Value} {E : Value → Shared → Prop} {A : Around}
/-- self.found = y -/
theorem ost_newL {Q : Unit → Shared → Prop} (T : OexL X.K C) (I : Inv X pins σ H s) (e : H a = some (exo a C none)) (ry : RelV y u)
    (h : ∀ dx s', H dx = none → dx ≠ a → Inv X pins σ (upd (upd H dx (exd dx [(("found" : Str), y)])) a (exo a C (some dx))) s' → Q () s') : wpAny (model X.prog X.w) A (setAttr (.ref a) "found" u) Q E s := by
  obtain ⟨t1, ho⟩ := exo_at I.hok e
  obtain ⟨hp, g, d, t, os⟩ := s
  refine PySem.W.set_plain I.kIn (ox := { cls := .ref C, dict := none, data := .fields #[.ref t1, .none, .none, .none, .bool false, .none] }) (od := none) ⟨ho, rfl, rfl, trivial⟩ T.sa ?_
  refine osaL T I.kIn ho (fun h' tk' dx k dn dne hx hn => ?_)
  have hnd : H dx = none := I.hok.fresh dn
  have nd : ∀ {b : Addr} {o : Obj}, hp.get? b = some o → b ≠ dx := fun {b o} q => Nat.ne_of_lt (Nat.lt_of_lt_of_le (Heap.lt_size q) dn)
  have na : ∀ {b : Addr}, H b = none → b ≠ a := fun {b} n z => by
    rw [z, e] at n
    cases n
  have Un1 : Un X.fs [] H (upd (upd H dx (exd dx [(("found" : Str), y)])) a (exo a C (some dx))) hp h' := {
    keep := fun b o q n _ _ => k b o (na n) q
    slot := fun b o q n _ _ => ⟨o.slots, k b o (na n) q⟩
    free := fun b o q n _ => by rw [upd_ne (na n), upd_ne (nd q)]; exact n
    there := fun b o q _ => by
      by_cases hb : b = a
      · exact ⟨_, by rw [hb]; exact hx⟩
      · exact ⟨o, k b o hb q⟩
    tups := fun b xs q => by rw [upd_ne (at_ne e q exo_tup), upd_ne (ne_of_none q hnd)]; exact q
    frzs := fun b o v q => by rw [upd_ne (at_ne e q exo_frz), upd_ne (ne_of_none q hnd)]; exact q
    tbls := fun b ps q => ⟨#[], by rw [upd_ne (at_ne e q exo_tbl), upd_ne (ne_of_none q hnd), q]; simp⟩ }
  refine h dx _ hnd dne (I.un (t' := tk') Un1 fun b o q => ?_)
  by_cases hb : b = a
  · subst hb
    rw [upd_same] at q
    cases q
    exact exo_ok hx
  · rw [upd_ne hb] at q
    by_cases hd : b = dx
    · subst hd
      rw [upd_same] at q
      cases q
      exact exd_ok hn (relO_put (fs := []) ry fun g => True.intro)
    · rw [upd_ne hd] at q
      exact (I.hok b o q).stay (fun c v hc z => k c v (by
          rcases hc with hc | hc
          · rw [hc]
            exact hb
          · exact at_ne e hc exo_own) z)
        (fun c hc => by rw [upd_ne (at_ne e hc exo_own), upd_ne (ne_of_none hc hnd)]; exact hc) (fun c xs hc => by rw [upd_ne (at_ne e hc exo_tup), upd_ne (ne_of_none hc hnd)]; exact hc)
/-- LookupError.__init__(self, ..) -/
theorem oinit_okL {us : List Value} {Q : Value → Shared → Prop} (T : OexL X.K C) (I : Inv X pins σ H s) (e : H a = some (exo a C none)) (hl : us.length ≤ sizeLine) (h : ∀ s', Inv X pins σ H s' → Q .none s') :
    wpAny (model X.prog X.w) A (call (.builtin "LookupError.__init__") (.ref a :: us)) Q E s := by
  obtain ⟨nm, N, qn, bs, bm, hdct, sn, sub, ab, col, dd, k0, k1, k2, k3, k5, hC, hT⟩ := PySem.W.excInit_of I.kIn T.init
  obtain ⟨t1, ho⟩ := exo_at I.hok e
  obtain ⟨hp, g, d, t, os⟩ := s
  refine wpAny_call (PySem.HandSPX.init_base F.excBase_LookupError hT hC ho hl fun h' t2 k hx => ?_)
  have J := I.write (t' := t) (x := a) (e := a) (o := exo a C none) (by rw [e]; exact True.intro) (.inl rfl) k ⟨_, hx⟩ (exo_ok hx)
  have eu : upd H a (exo a C none) = H := by
    funext b
    by_cases hb : b = a
    · rw [hb, upd_same, e]
    · rw [upd_ne hb]
  rw [eu] at J
  exact h _ J
end
def tVeL (K : PySem.W.Frag) (ta : TA) : TE := fun σ H Q => ta σ H fun vs H1 => ∃ (a C : Addr) (ws : List V), vs = .ref a :: ws ∧ ws.length ≤ 1000 ∧ OexL K C ∧ H1 a = some (exo a C none) ∧ Q .non H1
def tOstL (K : PySem.W.Frag) (to te : TE) : TS := fun D σ H => te σ H fun y H1 => to σ H1 fun x H2 => ∃ a C : Addr, x = .ref a ∧ OexL K C ∧ H2 a = some (exo a C none) ∧ ∀ dx, H2 dx = none → dx ≠ a → D.nx σ (upd (upd H2 dx (exd dx [(("found" : Str), y)])) a (exo a C (some dx)))
theorem ps_ostL {X : Cx} {o e : Expr} {to te : TE} {p' pos : Pos} (ho : PE X o to) (he : PE X e te) (hs : swapsWith e (some (.Attribute o "found" p')) pos.line X.env = pure false := by rfl) : PS X (.Assign [.Attribute o "found" p'] e pos) (tOstL X.K to te) := by
  refine ⟨fun pins s σ H D I h => ?_⟩
  refine plainObj_wpAny_Assign_Attribute (thn (he.run pins s σ H _ I h) fun v s1 ⟨y, H1, I1, r1, q1⟩ => thn (ho.run pins s1 σ H1 _ I1 q1) fun u s2 ⟨x, H2, I2, r2, a, C, ex, T, ea, q⟩ => ?_) hs
  subst ex
  obtain rfl : u = Value.ref a := r2
  exact ost_newL T I2 ea r1 fun dx s' n ne J => ⟨σ, _, J, q dx n ne⟩
def oexL (K : PySem.W.Frag) (C : Addr) : Bool := PySem.W.excInitIn K C tailL "LookupError.__new__" && (PySem.W.excOver K C tailL && (decide (PySem.W.takerIn K C ("found" : Str) = some none) && PySem.W.hasDictIn K C))
theorem oexL_ok {K : PySem.W.Frag} {C : Addr} (q : oexL K C = true) (sa : PySem.W.findIn K (.ref C) "__setattr__" = some (some (.builtin "object.__setattr__"))) (exC : PySem.W.subIn K (.ref C) (.type "BaseException") = some true) (tyC : PySem.W.typeIn K (.ref C) = some (.type "type")) (kC : PySem.W.keepIn K (.ref C) = true) : OexL K C := by
  obtain ⟨a, q⟩ := He.ba q
  obtain ⟨b, q⟩ := He.ba q
  obtain ⟨c, d⟩ := He.ba q
  exact ⟨a, b, of_decide_eq_true c, d, sa, exC, tyC, kC⟩
/-- the base class at B -/
structure ExB (K : PySem.W.Frag) (mg : Str → Option Value) (n : Str) (B : Addr) : Prop where
  g : mg n = some (.ref B)
  rd : PySem.W.readsIn K B (.type "type") = true
  sp : PySem.W.specialIn K (.ref B) "__getattribute__" = some (some (.builtin "type.__getattribute__"))
  vV : PySem.W.findCls K (.ref B) (.type "type") "__init__" = some (.val (.builtin "LookupError.__init__"))
/-- an own exception class at C, its __init__ at fI -/
structure ExK (K : PySem.W.Frag) (mg : Str → Option Value) (n : Str) (C fI : Addr) : Prop where
  g : mg n = some (.ref C)
  T : OexL K C
  E : ExcC K C
  iC : PySem.W.findIn K (.ref C) "__init__" = some (some (.ref fI))
  tI : PySem.W.typeIn K (.ref fI) = some (.type "function")
  no : PySem.W.findIn K (.ref C) "found" = some none
def exbB (n : Str) (K : PySem.W.Frag) : Bool := PySem.W.readsIn K (He.ga K n) (.type "type") && (He.eqO (PySem.W.specialIn K (.ref (He.ga K n)) "__getattribute__") (some (some (.builtin "type.__getattribute__"))) && isVal (PySem.W.findCls K (.ref (He.ga K n)) (.type "type") "__init__") "LookupError.__init__")
def exkB (n : Str) (K : PySem.W.Frag) : Bool :=
  let C := He.ga K n
  oexL K C && (He.eqO (PySem.W.findIn K (.ref C) "__setattr__") (some (some (.builtin "object.__setattr__"))) && (eqB (PySem.W.subIn K (.ref C) (.type "BaseException")) (some true) && (eqV (PySem.W.typeIn K (.ref C)) (some (.type "type")) && (PySem.W.keepIn K (.ref C) &&
  (He.eqO (PySem.W.findIn K (.ref C) "__getattribute__") (some (some (.builtin "BaseException.__getattribute__"))) && (He.eqO (PySem.W.findIn K (.ref C) "__getattr__") (some none) && (PySem.W.hasDictIn K C &&
  (He.eqO (PySem.W.findIn K (.ref C) "__class__") (some (some (.builtin "object.__class__"))) && (He.eqO (PySem.W.specialIn K (.builtin "object.__class__") "__get__") (some (some (.builtin "getset_descriptor.__get__"))) && (eqB (PySem.W.takesIn K (.builtin "object.__class__")) (some true) && (eqB (PySem.W.mroIn K C (.type "object")) (some true) &&
  (He.eqO (PySem.W.findIn K (.ref C) "__init__") (some (some (.ref (He.ma K C "__init__")))) && (eqV (PySem.W.typeIn K (.ref (He.ma K C "__init__"))) (some (.type "function")) && He.eqO (PySem.W.findIn K (.ref C) "found") (some none))))))))))))))
section
variable {K : PySem.W.Frag} {h : Heap} {mg : Str → Option Value}
theorem exb_ok (X : K.In h) (G : h.Ns mainGlobals mg) {n : Str} (c1 : (He.Fa.glo n).ok K = true) (c : exbB n K = true) : ExB K mg n (He.ga K n) := by
  obtain ⟨a, c⟩ := He.ba c
  obtain ⟨b, d⟩ := He.ba c
  exact ⟨He.glo_ok X G c1, a, He.eqO_ok b, isVal_ok d⟩
theorem exk_ok (X : K.In h) (G : h.Ns mainGlobals mg) {n : Str} (c1 : (He.Fa.glo n).ok K = true) (c : exkB n K = true) : ExK K mg n (He.ga K n) (He.ma K (He.ga K n) "__init__") := by
  obtain ⟨a1, c⟩ := He.ba c
  obtain ⟨a2, c⟩ := He.ba c
  obtain ⟨a3, c⟩ := He.ba c
  obtain ⟨a4, c⟩ := He.ba c
  obtain ⟨a5, c⟩ := He.ba c
  obtain ⟨a6, c⟩ := He.ba c
  obtain ⟨a7, c⟩ := He.ba c
  obtain ⟨a8, c⟩ := He.ba c
  obtain ⟨a9, c⟩ := He.ba c
  obtain ⟨a10, c⟩ := He.ba c
  obtain ⟨a11, c⟩ := He.ba c
  obtain ⟨a12, c⟩ := He.ba c
  obtain ⟨a13, c⟩ := He.ba c
  obtain ⟨a14, a15⟩ := He.ba c
  exact ⟨He.glo_ok X G c1, oexL_ok a1 (He.eqO_ok a2) (of_decide_eq_true a3) (of_decide_eq_true a4) a5, ⟨He.eqO_ok a6, He.eqO_ok a7, of_decide_eq_true a3, a8, He.eqO_ok a9, He.eqO_ok a10, of_decide_eq_true a11, of_decide_eq_true a12⟩, He.eqO_ok a13, of_decide_eq_true a14, He.eqO_ok a15⟩
end
section
variable {X : Cx} {o e : Expr} {es : List Expr} {to te : TE} {ta : TA} {f : Str} {p p' p1 p2 pos : Pos} {C fI B : Addr} {n x : Str}
/-- B.__init__(self, ..), B an own class without an __init__ of its own -/
theorem pe_binit {pl : Sem Bool} (T : ExB X.K X.mg n B) (hg : Gl X n) (ha : PA X (e :: es) ta) (hdb : (n == ("__debug__" : Str)) = false := by decide)
    (hc : eval (.Call (.Attribute (.Name n p1) "__init__" p2) (e :: es) [] pos) X.env = (do
      let ov ← eval (.Name n p1) X.env
      standAt p2.atName
      let (f, first) ← holding [ov] (getMethod ov "__init__" pl)
      callWith pos f first (backTo pos (starEach (e :: es) X.env)) (backToKw pos (keywordEach [] X.env))) := by rfl)
    (he : starEach (e :: es) X.env = (false, eval e X.env) :: starEach es X.env := by rfl) (hpl : (backTo pos (starEach es X.env)).any (·.1) = false := by rfl) :
    PE X (.Call (.Attribute (.Name n p1) "__init__" p2) (e :: es) [] pos) (tVeL X.K ta) := by
  refine ⟨fun pins s σ H Q I h => ?_⟩
  refine PySem.W.methodCall_KW (ld_glob I hg T.g ?_ hdb) hc
  refine PySem.W.method_cls I.kIn T.sp ?_
  refine PySem.W.cls_value I.kIn T.rd T.vV (by decide +kernel) ?_
  show wpAny _ _ (callWith pos (Value.builtin "LookupError.__init__") [] (backTo pos (starEach (e :: es) X.env)) []) _ _ _
  refine PyProof.Rows.callWith_method1 (thn (ha.run pos pins _ σ H _ (I.tok _) h) fun us s1 ⟨vs, H1, I1, r1, a, C, ws, ev, hl, T, ea, q⟩ => ?_) he hpl
  subst ev
  cases r1 with
  | @cons _ u0 _ ur ra rw' =>
    obtain rfl : u0 = Value.ref a := ra
    have hlen : ur.length ≤ sizeLine := by
      rw [← Paired.length rw', sizeLine_eq]
      omega
    exact oinit_okL T I1 ea hlen fun s' J => ⟨.non, H1, J, rfl, q⟩
end
/-- __init__(self, found) -/
def spInit (K : PySem.W.Frag) (C : Addr) : Sp := fun vs H Q _ => ∃ (a : Addr) (v : V), vs = [.ref a, v] ∧ OexL K C ∧ PySem.W.findIn K (.ref C) "found" = some none ∧ H a = some (exo a C none) ∧
  ∀ d, H d = none → d ≠ a → Q .non (upd (upd H d (exd d [(("found" : Str), v)])) a (exo a C (some d)))
theorem spInit_len {K : PySem.W.Frag} {C : Addr} {vs : List V} {H : Hp} {Q : VK} {E : XK} (h : spInit K C vs H Q E) : vs.length = (["self", "found"] : List Str).length := by
  obtain ⟨a, v, rfl, _⟩ := h
  rfl
theorem init_plain {K : PySem.W.Frag} {C : Addr} {z : Str} {vs : List V} {H : Hp} {Q : VK} {E : XK} (h : spInit K C vs H Q E) :
    tSeq (tDrop (tVeL K (tCons (tVar 0) (tCons (tC (.str z)) tNil)))) (tOstL K (tVar 0) (tVar 1)) { nx := fun _ H' => Q .non H', rt := Q } (start ["self", "found"] vs) H := by
  obtain ⟨a, v, rfl, T, no, ea, k⟩ := h
  exact ⟨_, rfl, a, C, [.str z], rfl, (show 1 ≤ 1000 by decide), T, ea, ⟨_, rfl, _, rfl, a, C, rfl, T, ea, k⟩⟩
/-- what init leaves, seen from the maker -/
theorem init_use {K : PySem.W.Frag} {mg : Str → Option Value} {n : Str} {C fI a : Addr} {v : V} {H : Hp} {Q : VK} {E : XK} (T : ExK K mg n C fI) (h : ∀ d, H d = none → d ≠ a → Q .non (upd (upd H d (exd d [(("found" : Str), v)])) a (exo a C (some d)))) :
    spInit K C [.ref a, v] (upd H a (exo a C none)) Q E :=
  ⟨a, v, rfl, T.T, T.no, upd_same, fun d hd ne => by
    rw [upd_end ne]
    rw [upd_ne ne] at hd
    exact h d hd ne⟩
section
variable {X : Cx} {e : Expr} {te : TE} {ta : TA} {p pos : Pos} {C fI : Addr} {n : Str} {k : Nat}
/-- the call itself -/
theorem run_exc {pins : List (Addr × Obj)} {σ : L2.St} {H1 : Hp} {s1 : Shared} {v : V} {u : Value} {Q : Value → Shared → Prop} (T : ExK X.K X.mg n C fI) (F1 : FnOk X.prog X.w X.K X.mg X.base CX0 k fI (fdOf X.K fI) ["self", "found"] (spInit X.K C)) (hb : Binds X.K (fdOf X.K fI) ["self", "found"] []) (hr : Room (k + 1) X.A)
    (I1 : Inv X pins σ H1 s1) (rv : RelV v u) (q : ∀ (a d : Addr) (hp2 h2 : Heap) (g2 : Array GenState) (d2 : Drawn) (t2 : Nat) (os2 : OsState), H1 a = none → H1 d = none → d ≠ a → s1.heap.objs.size ≤ a → (∀ b o, s1.heap.get? b = some o → hp2.get? b = some o) →
      Un (frs X.stack) [] (upd H1 a (exo a C none)) (upd (upd H1 d (exd d [(("found" : Str), v)])) a (exo a C (some d))) hp2 h2 → HOk X.prog X.w (upd (upd H1 d (exd d [(("found" : Str), v)])) a (exo a C (some d))) h2 → os2 = s1.os → AllBare g2 →
      Inv X pins σ (upd (upd H1 d (exd d [(("found" : Str), v)])) a (exo a C (some d))) ⟨h2, g2, d2, t2, os2⟩ → Q (.ref a) ⟨h2, g2, d2, t2, os2⟩) :
    wpAny (model X.prog X.w) X.A (call (.ref C) [u]) Q X.xe s1 := by
  obtain ⟨nm, N, qn, bs, bm, hdct, sn, sub, ab, col, dd, k0, k1, k2, k3, k5, hC, hT⟩ := PySem.W.excInit_of I1.kIn T.T.init
  obtain ⟨hp, g, dr, tk, os⟩ := s1
  have hsz : hp.objs.size ≤ hp.objs.size + 1 := Nat.le_succ _
  have hn : H1 (hp.objs.size + 1) = none := I1.hok.fresh hsz
  have kk : ∀ b o, hp.get? b = some o → ((hp.push (PySem.W.kdv_tup [u])).push (PySem.HandSPX.excO C hp.objs.size)).get? b = some o := fun b o e => Heap.get?_push_of_some _ (Heap.get?_push_of_some _ e)
  have hget : ((hp.push (PySem.W.kdv_tup [u])).push (PySem.HandSPX.excO C hp.objs.size)).get? (hp.objs.size + 1) = some (PySem.HandSPX.excO C hp.objs.size) := by heap_get
  have I2 : Inv X pins σ (upd H1 (hp.objs.size + 1) (exo (hp.objs.size + 1) C none)) ⟨(hp.push (PySem.W.kdv_tup [u])).push (PySem.HandSPX.excO C hp.objs.size), g, dr, tk, os⟩ :=
    I1.laid (t' := tk) (a := hp.objs.size + 1) (o := exo (hp.objs.size + 1) C none) (h' := (hp.push (PySem.W.kdv_tup [u])).push (PySem.HandSPX.excO C hp.objs.size)) kk hsz (exo_ok hget)
  have r2 : Vals [V.ref (hp.objs.size + 1), v] [Value.ref (hp.objs.size + 1), u] := .cons rfl (.cons rv .nil)
  have hus : [u].length ≤ sizeLine := by
    rw [sizeLine_eq]
    exact (by decide : 1 ≤ 16777216)
  have sp1 : spInit X.K C [.ref (hp.objs.size + 1), v] (upd H1 (hp.objs.size + 1) (exo (hp.objs.size + 1) C none)) (fun w H2 => w = .non ∧ ∃ d, H1 d = none ∧ d ≠ hp.objs.size + 1 ∧ H2 = upd (upd H1 d (exd d [(("found" : Str), v)])) (hp.objs.size + 1) (exo (hp.objs.size + 1) C (some d))) (fun _ _ _ => False) :=
    init_use T fun d hd ne => ⟨rfl, d, hd, ne, rfl⟩
  refine wpAny_call (PySem.HandSPX.call_own F.excBase_LookupError hT hC (PySem.W.looks_findIn I1.kIn T.iC) (fun self => PySem.W.bind_fn I1.kIn self T.tI) hus
    (codeAny_mono (F1.run _ X.stack _ _ ⟨[Value.ref (hp.objs.size + 1), u], []⟩ [Value.ref (hp.objs.size + 1), u] _ _ (fun _ _ _ => False) (hr.make C [u] []) (I2.env0.make C [u] []) (hb _ [Value.ref (hp.objs.size + 1), u] I2.kIn rfl) r2 sp1) fun r s' hq' => ?_))
  cases r with
  | error er => exact hq'.elim
  | ok fl =>
    cases fl with
    | ret z =>
      have hq0 := hq'
      obtain ⟨w, H2, os2, bare2, un2, hok2, rw', ew, d, hd1, ne, e2⟩ := hq'
      subst ew e2
      obtain ⟨w', H3, J, rw2, ew2, d', hd', ne', e3⟩ := I2.after hq0
      subst ew2
      obtain ⟨h2, g2, d2, t2, os'⟩ := s'
      refine ⟨rw', q _ d _ h2 g2 d2 t2 os' hn hd1 ne hsz kk un2 hok2 os2 bare2 ?_⟩
      exact I2.call' (ch := []) os2 un2 hok2 bare2 (fun b z => absurd z (by simp))
    | next => exact False.elim hq'
    | brk => exact False.elim hq'
    | cont => exact False.elim hq'
theorem pmk_X (T : ExK X.K X.mg n C fI) (F1 : FnOk X.prog X.w X.K X.mg X.base CX0 k fI (fdOf X.K fI) ["self", "found"] (spInit X.K C)) (hb : Binds X.K (fdOf X.K fI) ["self", "found"] []) (hr : Room (k + 1) X.A) (hg : Gl X n) (ha : PA X [e] ta)
    (hdb : (n == ("__debug__" : Str)) = false := by decide) (he : starEach [e] X.env = (false, eval e X.env) :: starEach [] X.env := by rfl) (hpl : (backTo pos (starEach [] X.env)).any (·.1) = false := by rfl) :
    PMk X (.Call (.Name n p) [e] [] pos) (tMkX C ta) := by
  intro pins s σ H Q I h
  refine wpAny_Call_Name_kw (ld_glob I hg T.g ?_ hdb)
  refine PySem.W.callWith_K (h₀ := X.base) I.ok.mod.kin T.T.kC (thn (ha.run pos pins s σ H _ I h) fun us s1 ⟨vs, H1, I1, r1, v, ev, q1⟩ => ⟨I1.kIn, ?_⟩) he hpl
  subst ev
  cases r1 with
  | @cons _ u _ us rv rn =>
    cases rn
    show wpAny _ _ (call (.ref C) [u]) _ _ _
    refine run_exc T F1 hb hr I1 rv fun a d hp2 h2 g2 d2 t2 os2 ha hd ne hsz kk un hok eo hb2 J => ?_
    obtain ⟨hp, g, dr, tk, os⟩ := s1
    refine mk_end (fs := [(("found" : Str), v)]) (hp2 := hp2) (os1 := os) (raises_own T.T.exC T.T.tyC) I1 hsz kk un hok eo hb2 upd_same (by rw [upd_ne ne, upd_same]) hd ?_
    have e1 : upd (del (upd (upd H1 d (exd d [(("found" : Str), v)])) a (exo a C (some d))) a) d (.xd [(("found" : Str), v)]) = upd H1 d (.xd [(("found" : Str), v)]) := by
      funext b
      by_cases h1 : b = d
      · rw [h1, upd_same, upd_same]
      · rw [upd_ne h1, upd_ne h1]
        by_cases h2 : b = a
        · rw [h2, del_same, ha]
        · rw [del_ne h2, upd_ne h2, upd_ne h1]
    rw [e1]
    exact q1 d hd
theorem ps_raiseX {W : L2.WX} {pos2 : Pos} (hc : X.calm = true) (tk : Takes X W) (T : ExK X.K X.mg n C fI) (F1 : FnOk X.prog X.w X.K X.mg X.base CX0 k fI (fdOf X.K fI) ["self", "found"] (spInit X.K C)) (hb : Binds X.K (fdOf X.K fI) ["self", "found"] []) (hr : Room (k + 1) X.A) (hg : Gl X n) (ha : PA X [e] ta)
    (hdb : (n == ("__debug__" : Str)) = false := by decide) (he : starEach [e] X.env = (false, eval e X.env) :: starEach [] X.env := by rfl) (hpl : (backTo pos (starEach [] X.env)).any (·.1) = false := by rfl) :
    PS X (.Raise (some (.Call (.Name n p) [e] [] pos)) none pos2) (tRaiseX C W ta) := ps_raise hc tk (pmk_X T F1 hb hr hg ha hdb he hpl)
end
end LE
end Wk
set_option maxRecDepth 100000
set_option maxHeartbeats 4000000
namespace Wk
open PySem PySem.Spec PyProof.Rows L2
/-- values picked by places -/
def gI {α : Type} (idx : List Nat) (l : List α) : List α := idx.filterMap fun i => l[i]?
theorem vals_gI {vs : List V} {us : List Value} (r : Vals vs us) : ∀ idx : List Nat, Vals (Wk.gI idx vs) (Wk.gI idx us)
  | [] => .nil
  | i :: idx => by
    unfold Wk.gI
    rw [List.filterMap_cons, List.filterMap_cons]
    have ih := vals_gI r idx
    unfold Wk.gI at ih
    have one : ∀ {vs : List V} {us : List Value} (i : Nat), Vals vs us → (vs[i]? = none ∧ us[i]? = none) ∨ ∃ v u, vs[i]? = some v ∧ us[i]? = some u ∧ RelV v u := by
      intro vs us i r
      induction r generalizing i with
      | nil => exact .inl ⟨rfl, rfl⟩
      | cons a b ih =>
        cases i with
        | zero => exact .inr ⟨_, _, rfl, rfl, a⟩
        | succ j => exact ih j
    rcases one i r with ⟨e1, e2⟩ | ⟨v, u, e1, e2, rr⟩
    · rw [e1, e2]
      exact ih
    · rw [e1, e2]
      exact .cons rr ih
/-- n positional values and keywords ks bind; gV puts all values in the parameters' order -/
def KB (K : PySem.W.Frag) (fd : FuncData) (ps : List Str) (n : Nat) (ks : List Str) (gV : List V → List V → List V) : Prop := ∃ g, KBn K fd ps n ks g gV
section
variable {K : PySem.W.Frag} {x qual : Str} {st : Stmt} {dvs : List V} {f : Addr} {ps ks : List Str} {n : Nat}
/-- no defaults -/
theorem kb_n (F : FD K x qual st [] f) (g : {α : Type} → List α → List α → List α) (hrel : ∀ {vs zs : List V} {us ws : List Value}, Vals vs us → Vals zs ws → Vals (g vs zs) (g us ws))
    (h : ∀ (kV doc pm : Value) (an : Option Addr) (cdv ct : Value) (us ws : List Value), us.length = n → ws.length = ks.length → bindArgs (PySem.W.fnOf x qual (defArgs st) (defBody st) (defScope st) .none kV doc pm an cdv ct) ⟨us, ks.zip ws⟩ = pure (ps.zip (g us ws))) :
    KB K (fdOf K f) ps n ks g := by
  obtain ⟨oc, od, dV, kV, doc, pm, an, cdv, ct, osl, e, lk, hcd, hD, hK⟩ := FunD.ex F
  refine ⟨g, ⟨fun s us ws X l1 l2 => ?_, fun r1 r2 => hrel r1 r2⟩⟩
  rw [e]
  rcases hD with ⟨_, rfl⟩ | ⟨e, _⟩
  · exact .of_eq (h kV doc pm an cdv ct us ws l1 l2)
  · exact absurd rfl e
/-- defaults -/
theorem kb_d (F : FD K x qual st dvs f) (hd : dvs ≠ []) (g : {α : Type} → List α → List α → List α → List α) (hrel : ∀ {vs ds zs : List V} {us its ws : List Value}, Vals vs us → Vals ds its → Vals zs ws → Vals (g vs ds zs) (g us its ws))
    (h : ∀ (T : Addr) (kV doc pm : Value) (an : Option Addr) (cdv ct : Value) (us its ws : List Value), us.length = n → its.length = dvs.length → ws.length = ks.length →
      ∃ k, bindArgs (PySem.W.fnOf x qual (defArgs st) (defBody st) (defScope st) (.ref T) kV doc pm an cdv ct) ⟨us, ks.zip ws⟩ = seqItems? (.ref T) >>= k ∧ k (some its.toArray) = pure (ps.zip (g us its ws))) :
    KB K (fdOf K f) ps n ks (fun vs zs => g vs dvs zs) := by
  obtain ⟨oc, od, dV, kV, doc, pm, an, cdv, ct, osl, e, lk, hcd, hD, hK⟩ := FunD.ex F
  rcases hD with ⟨e, _⟩ | ⟨_, T, o, its, m, rfl, lT, oT, rT⟩
  · exact absurd e hd
  · refine ⟨fun us ws => g us its ws, ⟨fun s us ws X l1 l2 => ?_, fun r1 r2 => hrel r1 rT r2⟩⟩
    obtain ⟨k, e1, e2⟩ := h T kV doc pm an cdv ct us its ws l1 rT.length.symm l2
    refine BindsTo.of_looks fun M => ?_
    rw [e, e1]
    exact looks_items X lT oT (.of_pure e2)
end
def gCallN (n m : Nat) (sp : Sp) (gV : List V → List V → List V) (E : L2.St → XK) (t tk : TA) : TE := fun σ H Q => t σ H fun vs H1 => tk σ H1 fun zs H2 => vs.length = n ∧ zs.length = m ∧ sp (gV vs zs) H2 Q (E σ)
section
variable {X : Cx} {k n : Nat} {f C : Addr} {ps ks : List Str} {sp : Sp} {E : L2.St → XK} {x m : Str} {p pos apos : Pos} {e o : Expr} {es : List Expr} {kws : List Keyword} {t tk ta : TA} {to : TE} {gV : List V → List V → List V}
theorem run_gN {pins : List (Addr × Obj)} {σ : L2.St} {H : Hp} {s : Shared} {Q : VK} {us ws : List Value} {vs zs : List V} (F : FnG X.prog X.w X.K X.mg X.base k f ps sp) (hgu : X.A.guards = some []) (hr : Room k X.A) (hb : KB X.K (fdOf X.K f) ps n ks gV) (hx : PassG X σ (E σ))
    (I : Inv X pins σ H s) (r : Vals vs us) (rz : Vals zs ws) (l1 : vs.length = n) (l2 : zs.length = ks.length) (h : sp (gV vs zs) H Q (E σ)) : wpAny (model X.prog X.w) X.A (call (.ref f) us (ks.zip ws)) (EP X pins σ Q) X.xe s := by
  obtain ⟨g, hb⟩ := hb
  have r2 := hb.rel r rz
  refine wpAny_call (codeAny_mono (F.run X.A X.stack s H ⟨us, ks.zip ws⟩ (g us ws) (gV vs zs) Q (E σ) hgu hr I.env0 (hb.to s us ws I.kIn (r.length.symm.trans l1) (rz.length.symm.trans l2)) r2 h) fun r s' hq => ?_)
  cases r with
  | error e => exact hx pins H s e s' I hq
  | ok fl =>
    cases fl with
    | ret u => exact I.after hq
    | next => exact False.elim hq
    | brk => exact False.elim hq
    | cont => exact False.elim hq
theorem se_callN {σ : L2.St} {H : Hp} {Q : VK} {n m : Nat} (h : t σ H fun vs H1 => tk σ H1 fun zs H2 => vs.length = n ∧ zs.length = m ∧ sp (gV vs zs) H2 Q (E σ)) : gCallN n m sp gV E t tk σ H Q := h
theorem se_call1 {σ : L2.St} {H : Hp} {Q : VK} {dvs : List V} (h : t σ H fun vs H1 => sp (vs ++ dvs) H1 Q (E σ)) : gCall sp dvs E t σ H Q := h
end
inductive Knd where
  | non | bl | int | str | lst | tup | dict | oth
deriving DecidableEq
def Knd.is : Knd → String → Bool
  | .non, n => n == "NoneType"
  | .bl, n => n == "bool" || n == "int"
  | .int, n => n == "int"
  | .str, n => n == "str"
  | .lst, n => n == "list"
  | .tup, n => n == "tuple"
  | .dict, n => n == "dict"
  | .oth, _ => false
def six : List String := ["int", "bool", "str", "list", "tuple", "dict"]
/-- the class's instances are none of the six -/
def Six (K : PySem.W.Frag) (C : Addr) : Prop := ∀ n ∈ six, PySem.W.kitOne K (.ref C) (.type n) = some false
def sixB (x : Str) (K : PySem.W.Frag) : Bool := six.all fun n => eqB (PySem.W.kitOne K (.ref (He.ga K x)) (.type n)) (some false)
theorem six_ok {K : PySem.W.Frag} {x : Str} (h : sixB x K = true) : Six K (He.ga K x) := fun n hn => of_decide_eq_true (List.all_eq_true.mp h n hn)
/-- what the class of an own plain class says, so that isinstance may ask its instances -/
structure InsC (K : PySem.W.Frag) (C : Addr) : Prop where
  cl : Cls K C
  ha : PySem.W.findIn K (.ref C) "__class__" = some (some (.builtin "object.__class__"))
  hn : PySem.W.specialIn K (.builtin "object.__class__") "__get__" = some (some (.builtin "getset_descriptor.__get__"))
  ht : PySem.W.takesIn K (.builtin "object.__class__") = some true
  hm : PySem.W.mroIn K C (.type "object") = some true
/-- a value's kind -/
inductive Kn (K : PySem.W.Frag) (H : Hp) : V → Knd → Prop where
  | non : Kn K H .non .non
  | bl (b : Bool) : Kn K H (.bl b) .bl
  | int (i : Int) : Kn K H (.int i) .int
  | str (x : Str) : Kn K H (.str x) .str
  | lst {a : Addr} {xs : List V} (e : H a = some (.lst xs)) : Kn K H (.ref a) .lst
  | frz {a : Addr} {o : Obj} {xs : List V} (e : H a = some (.frz o (.lst xs))) : Kn K H (.ref a) .lst
  | tup {a : Addr} {xs : List V} (e : H a = some (.tup xs)) : Kn K H (.ref a) .tup
  | dict {a : Addr} {kvs : List (Key × V)} (e : H a = some (.dK kvs)) : Kn K H (.ref a) .dict
  | exc {a d C : Addr} {fs : List (Str × V)} (e : H a = some (exo a C (some d))) (ed : H d = some (exd d fs)) (c : ExcC K C) (s : Six K C) : Kn K H (.ref a) .oth
  | excq {a d C t1 : Addr} {fs : List (Str × V)} (e : H a = some (exq a C (some d) t1)) (ed : H d = some (exd d fs)) (c : ExcC K C) (s : Six K C) : Kn K H (.ref a) .oth
  | ins {a C dx : Addr} {fs : List (Str × V)} (e : H a = some (.ins C dx fs)) (c : InsC K C) (s : Six K C) : Kn K H (.ref a) .oth
theorem Kn.mono {K : PySem.W.Frag} {H H' : Hp} {v : V} {k : Knd} (h : Kn K H v k) (x : Ex H H') : Kn K H' v k := by
  cases h with
  | non => exact .non
  | bl b => exact .bl b
  | int i => exact .int i
  | str z => exact .str z
  | lst e => exact .lst (x _ _ e)
  | frz e => exact .frz (x _ _ e)
  | tup e => exact .tup (x _ _ e)
  | dict e => exact .dict (x _ _ e)
  | exc e ed c s => exact .exc (x _ _ e) (x _ _ ed) c s
  | excq e ed c s => exact .excq (x _ _ e) (x _ _ ed) c s
  | ins e c s => exact .ins (x _ _ e) c s
theorem HI.kn {K : PySem.W.Frag} {H D : Hp} {R : List (Addr × HO)} {v : V} {k : Knd} (h : HI H R D) (r : Kn K D v k) : Kn K H v k := r.mono h.sub
abbrev Six0 (a : String) (k : Knd) : Prop := ∀ n ∈ six, kitB a n = some (k.is n)
section
variable {prog : Program} {w : World} {A : Around} {E : Value → Shared → Prop} {s : Shared} {K : PySem.W.Frag} {x D : Addr} {ox od : Obj}
open PySem.W PySem.Calls in
theorem kin_classX {Q : Option Value → Shared → Prop} (C : ExcC K D)
    (X : K.In s.heap) (I : InstAt s.heap x ox D (some od)) (h : Q (some (.ref D)) { s with toks := s.toks + 1 }) : wpAny (model prog w) A (getAttr? (.ref x) "__class__") Q E s := by
  have hga := C.hg
  have hgt := C.hk
  have hsub := C.hs
  have hdct := C.hd
  have ha := C.ha
  have hn := C.hn
  have htk := C.ht
  have hm := C.hm
  have hf : findObj K D (some od) "__class__" = some (.bind (.builtin "getset_descriptor.__get__") (.builtin "object.__class__")) := findObj_data (by obtain ⟨cd, hc, _⟩ := any_some hdct; rw [hc]; rfl) ha hn htk
  obtain ⟨hp, g, d, t, os⟩ := s
  have L0 := I.type (M := model prog w)
  have L1 := looks_findIn (M := model prog w) X hga
  have L2 := looks_findIn (M := model prog w) X hgt
  have L3 := looks_find (M := model prog w) X I hf
  have sub : Looks (model prog w) hp (isInstance (.ref x) (.type "BaseException")) true := L0.andThen (looks_subIn X hsub)
  have hx0 : (false && onTheHeap (Value.builtin "BaseException.__getattribute__")) = false := rfl
  have hx2 : (Value.builtin "BaseException.__getattribute__" == Value.builtin "object.__getattribute__") = false := by decide +kernel
  have hx1 : (onTheHeap (Value.ref D) && Value.builtin "BaseException.__getattribute__" == Value.builtin "object.__getattribute__") = false := by rw [hx2]; rfl
  unfold getAttr? getAttrBy? getAttrBy
  refine wpAny_bind (wpAny_mkText (wpAny_bind (wpAny_attempt (wpAny_holding (wpAny_bind (L0.at (wpAny_bind (L1.at ?_))))))))
  show wpAny _ _ (if (onTheHeap (Value.ref D) && Value.builtin "BaseException.__getattribute__" == Value.builtin "object.__getattribute__") = true then _ else _) _ _ _
  rw [hx1, if_neg Bool.false_ne_true]
  unfold getAttrByItsOwn hookBefore
  refine wpAny_bind ?_
  rw [if_pos (show onTheHeap (Value.ref D) = true from rfl)]
  refine L2.at ?_
  refine wpAny_bind (wpAny_attempt (wpAny_holding ?_))
  unfold callGetattribute
  rw [hx0, if_neg Bool.false_ne_true]
  unfold boundAndCalled
  rw [PySem.F.excAttr_ValueError.ga.bind (.ref x)]
  refine wpAny_bind (wpAny_pure ?_)
  show wpAny _ _ (call (.builtin "BaseException.__getattribute__") [.ref x, .str "__class__" t]) _ _ _
  refine wpAny_call (codeAny_call_builtin PySem.F.excAttr_ValueError.ga.plain PySem.F.entry_bexc_ga ?_)
  refine @check_slot (model prog w) _ _ ⟨hp, g, d, t + 1, os⟩ "BaseException.__getattribute__" "BaseException" "__getattribute__" (.ref x) [.str "__class__" t] [] _ (by decide +kernel) (by decide +kernel) sub (PySem.F.args_bexc_ga (.ref x) (.str "__class__" t)) ?_
  unfold Builtin.«object.__getattribute__»
  refine wpAny_bind (wpAny_of_eq (a := ((Value.ref x : Value), [Value.str "__class__" t])) (by first | rfl | (simp only [slotArgs]; rfl)) ?_)
  refine wpAny_bind (wpAny_pure (wpAny_bind (L0.at (wpAny_bind (L3.at ?_)))))
  show wpAny _ _ (holding [Value.builtin "object.__class__"] (call (.builtin "getset_descriptor.__get__") [.builtin "object.__class__", .ref x, .ref D]) >>= ret) _ _ _
  refine wpAny_bind (wpAny_holding (wpAny_call (class_get (s := ⟨hp, g, d, t + 1, os⟩) (ox := ox) (od := some od) X I hm ?_)))
  refine wpAny_pure ?_
  show wpAny _ _ (handedOut (.ref D)) _ _ _
  rw [handedOut_of (v := .ref D) rfl]
  first
    | exact wpAny_pure (wpAny_pure h)
    | exact wpAny_pure h
    | exact wpAny_pure (wpAny_bind (wpAny_pure (wpAny_pure h)))
open PySem.W PySem.Calls in
theorem kitx_X (C : ExcC K D) : KitX K (.ref x) (.ref D) (fun h => InstAt h x ox D (some od)) where
  ty := fun _ _ _ I => I.type
  it := fun _ _ X _ => by
    obtain ⟨cdD, hcD, _⟩ := any_some C.hd
    unfold clsIn at hcD
    split at hcD
    · rename_i c' d' cd' sl' ho
      intro A' Q' E' s' k q
      unfold isType loadHead
      exact wpAny_bind (wpAny_loadPart (k _ _ (X _ _ ho)) (wpAny_pure q))
    · cases hcD
  ne := fun h tp dd its n sl X htp => by
    obtain ⟨cdD, hcD, _⟩ := any_some C.hd
    refine Bool.eq_false_iff.mpr fun q => ?_
    have e : D = tp := Value.ref.inj (beq_iff_eq.mp q)
    subst e
    unfold clsIn at hcD
    split at hcD
    · rename_i c' d' cd' sl' ho
      have z := (X _ _ ho).symm.trans htp
      cases z
    · cases hcD
  ca := fun X I k => kin_classX C X I k
end
section
variable {X : Cx} {pins : List (Addr × Obj)} {σ : L2.St} {H : Hp} {s : Shared}
/-- the type of such a value, and what the library's rules ask -/
theorem kn_of {v : V} {u : Value} {k : Knd} (I : Inv X pins σ H s) (rx : RelV v u) (h : Kn X.K H v k) :
    ∃ (t : Value) (P : Heap → Prop), PySem.W.KitX X.K u t P ∧ P s.heap ∧ u ≠ .builtin "__main__.__loader__#opaque" ∧ ∀ n ∈ six, PySem.W.kitOne X.K t (.type n) = some (k.is n) := by
  have go : ∀ {t : Value}, TyX X.K H v t → (∀ n ∈ six, PySem.W.kitOne X.K t (.type n) = some (k.is n)) → ∃ (t : Value) (P : Heap → Prop), PySem.W.KitX X.K u t P ∧ P s.heap ∧ u ≠ .builtin "__main__.__loader__#opaque" ∧ ∀ n ∈ six, PySem.W.kitOne X.K t (.type n) = some (k.is n) := fun ty hk => by
    obtain ⟨P, Z, p, hx⟩ := kit_of I rx ty
    exact ⟨_, P, Z, p, hx, hk⟩
  have b : ∀ {a : String}, Six0 a k → ∀ n ∈ six, PySem.W.kitOne X.K (.type a) (.type n) = some (k.is n) := fun h n hn => kit_ty (h n hn)
  cases h with
  | non => exact go (.base .non) (b (by decide +kernel))
  | bl c => exact go (.base (.bl c)) (b (by decide +kernel))
  | int i => exact go (.base (.int i)) (b (by decide +kernel))
  | str z => exact go (.base (.str z)) (b (by decide +kernel))
  | lst e => exact go (.base (.lst e)) (b (by decide +kernel))
  | frz e => exact go (.base (.frz e)) (b (by decide +kernel))
  | tup e => exact go (.base (.tup e)) (b (by decide +kernel))
  | dict e => exact go (.base (.dK e)) (b (by decide +kernel))
  | ins e c s => exact go (.base (.ins e c.cl c.ha c.hn c.ht c.hm)) s
  | @exc a d C fs e ed c s =>
    cases (show u = Value.ref a from rx)
    obtain ⟨t1, ho⟩ := exo_at I.hok e
    obtain ⟨mA, hns, rel⟩ := exd_at I.hok ed
    obtain ⟨oD, _, _, hoD, _, _⟩ := hns.count (within_of rel)
    exact ⟨_, _, kitx_X (od := oD) c, ⟨ho, rfl, rfl, hoD⟩, (fun z => nomatch z), s⟩
  | @excq a d C t1 fs e ed c s =>
    cases (show u = Value.ref a from rx)
    have ho := exq_at I.hok e
    obtain ⟨mA, hns, rel⟩ := exd_at I.hok ed
    obtain ⟨oD, _, _, hoD, _, _⟩ := hns.count (within_of rel)
    exact ⟨_, _, kitx_X (od := oD) c, ⟨ho, rfl, rfl, hoD⟩, (fun z => nomatch z), s⟩
end
/-- isinstance(x, T), T one of the six -/
inductive RIsi (K : PySem.W.Frag) : List V → Hp → VK → Prop
  | ty {x : V} {n : String} {k : Knd} {H : Hp} {Q : VK} : Kn K H x k → n ∈ six → Q (.bl (k.is n)) H → RIsi K [x, .ty n] H Q
/-- isinstance(x, (T, ..)) -/
inductive RIsiT (K : PySem.W.Frag) : List V → Hp → VK → Prop
  | ty {x : V} {p : Addr} {ns : List String} {k : Knd} {H : Hp} {Q : VK} : Kn K H x k → H p = some (.tup (ns.map V.ty)) → (∀ n ∈ ns, n ∈ six) → Q (.bl (ns.any k.is)) H → RIsiT K [x, .ref p] H Q
theorem kitAny_map {K : PySem.W.Frag} {t : Value} {k : Knd} (h : ∀ n ∈ six, PySem.W.kitOne K t (.type n) = some (k.is n)) : ∀ ns : List String, (∀ n ∈ ns, n ∈ six) → PySem.W.kitAny K t (ns.map Value.type) = some (ns.any k.is)
  | [], _ => rfl
  | n :: ns, hn => by
    refine kitAny_cons (h n (hn n (List.mem_cons_self ..))) (fun e => ?_) fun e => ?_
    · rw [List.any_cons, e, Bool.false_or]
      exact kitAny_map h ns fun m hm => hn m (List.mem_cons_of_mem _ hm)
    · rw [List.any_cons, e, Bool.true_or]
theorem clsV_map : ∀ ns : List String, Paired ClsV (ns.map V.ty) (ns.map Value.type)
  | [] => .nil
  | n :: ns => .cons (.ty n) (clsV_map ns)
section
variable {X : Cx}
theorem call_isiU : CallR X (.builtin "isinstance") (RIsi X.K) := by
  intro pins s σ H xs us Q I r h
  cases h with
  | ty kn hn q =>
    obtain ⟨u1, u2, rfl, r1, r2⟩ := vals2 r
    cases (show u2 = Value.type _ from r2)
    obtain ⟨t, P, Z, p, hx, hk⟩ := kn_of I r1 kn
    exact PySem.W.kia_one Z I.kIn p (hk _ hn) hx fun tk => ⟨.bl _, H, I.tok tk, rfl, q⟩
theorem call_isiTU : CallR X (.builtin "isinstance") (RIsiT X.K) := by
  intro pins s σ H xs us Q I r h
  cases h with
  | @ty x tp ns k _ _ kn hT hn q =>
    obtain ⟨u1, u2, rfl, r1, r2⟩ := vals2 r
    cases (show u2 = Value.ref tp from r2)
    obtain ⟨t, P, Z, p, hx, hk⟩ := kn_of I r1 kn
    obtain ⟨_, its, rv, o, h1, h2, n, h3⟩ := (show ObjOk X.prog X.w H s.heap tp (.tup (ns.map V.ty)) from I.hok tp _ hT)
    have e3 := ClsV.all (clsV_map ns) rv
    subst e3
    obtain ⟨oc, od, dt, sl⟩ := o
    simp only at h2 h3
    subst h2 h3
    exact PySem.W.kia_tup Z I.kIn p h1 (kitAny_map hk ns hn) hx fun tk => ⟨.bl _, H, I.tok tk, rfl, q⟩
end
end Wk
set_option maxRecDepth 100000
set_option maxHeartbeats 4000000
namespace Wk
open PySem PySem.Spec PyProof.Rows L2
section
variable {K : PySem.W.Frag} {σ : L2.St} {H : Hp} {Q : VK} {ta tb tc te to : TE} {t tk : TA} {tl th : TO} {D : Ends}
theorem se_andV (h : ta σ H fun x H1 => ∃ c, x = .bl c ∧ if c = true then tb σ H1 Q else Q (.bl false) H1) : tAndV ta tb σ H Q := h
theorem se_orV (h : ta σ H fun x H1 => ∃ c, x = .bl c ∧ if c = true then Q (.bl true) H1 else tb σ H1 Q) : tOrV ta tb σ H Q := h
theorem se_notV (h : ta σ H fun x H1 => ∃ c, x = .bl c ∧ Q (.bl (!c)) H1) : tNotV ta σ H Q := h
theorem se_chain {r r' : R2} (h : ta σ H fun x H1 => tb σ H1 fun y H2 => r x y H2 fun z H3 => ∃ k, z = .bl k ∧ (if k = true then tc σ H3 fun w' H4 => r' y w' H4 Q else Q (.bl false) H3)) : tChain r r' ta tb tc σ H Q := h
theorem se_sl {r : V → Option Int → Option Int → Hp → VK → Prop} (h : te σ H fun x H1 => tl σ H1 fun l H2 => th σ H2 fun u H3 => r x l u H3 Q) : tSl r te tl th σ H Q := h
theorem so_none {P : Option Int → Hp → Prop} (h : P none H) : tNoPart σ H P := h
theorem so_some {P : Option Int → Hp → Prop} (h : te σ H fun x H1 => ∃ i, x = .int i ∧ P (some i) H1) : tPart te σ H P := h
theorem so_int {i : Int} {P : Int → Prop} (h : P i) : ∃ j, V.int i = .int j ∧ P j := ⟨i, rfl, h⟩
theorem se_m1 {r : V → List V → Hp → VK → Prop} (h : to σ H fun x H1 => (∃ a, x = .str a) ∧ te σ H1 fun y H2 => r x [y] H2 Q) : tM1 r to te σ H Q := h
theorem se_m0 {r : V → List V → Hp → VK → Prop} (h : to σ H fun x H1 => (∃ a, x = .str a) ∧ r x [] H1 Q) : tM0 r to σ H Q := h
theorem m_str {z : Str} {A : Prop} (h : A) : (∃ a, V.str z = .str a) ∧ A := ⟨⟨z, rfl⟩, h⟩
def MkEP (C : Addr) (vs : List V) (H : Hp) (Q : VK) : Prop := ∃ v, vs = [v] ∧ ∀ a d, H a = none → H d = none → d ≠ a → Q (.ref a) (upd (upd H d (exd d [(("found" : Str), v)])) a (exo a C (some d)))
def MkXP (C : Addr) (vs : List V) (H : Hp) (Q : XK) : Prop := ∃ v, vs = [v] ∧ ∀ d, H d = none → Q (.ref C) (some d) (upd H d (.xd [(("found" : Str), v)]))
theorem se_mkE {C : Addr} (h : t σ H fun vs H1 => MkEP C vs H1 Q) : tMkE C t σ H Q := h
theorem mkE_now {H D : Hp} {R : List (Addr × HO)} {v : V} {C : Addr} {Q : VK} (h : HI H R D) (k : ∀ a d H' D', HI H' R D' → Ex D D' → D' a = some (exo a C (some d)) → D' d = some (exd d [(("found" : Str), v)]) → Q (.ref a) H') : MkEP C [v] H Q := mkE_use h k
theorem st_raiseX {C : Addr} {W : L2.WX} (h : t σ H fun vs H1 => MkXP C vs H1 fun cls d H' => W cls d σ H') : tRaiseX C W t D σ H := h
theorem mkX_now {H D : Hp} {R : List (Addr × HO)} {v : V} {C : Addr} {Q : XK} (h : HI H R D) (k : ∀ d H' D', HI H' R D' → Ex D D' → D' d = some (.xd [(("found" : Str), v)]) → Q (.ref C) (some d) H') : MkXP C [v] H Q := mkX_use h k
theorem st_par {i j : Nat} (h : t σ H fun vs H1 => ∃ v w, vs = [v, w] ∧ D.nx ((σ.set i (some v)).set j (some w)) H1) : tPar i j t D σ H := h
theorem par_mk {x y : V} {P : V → V → Prop} (h : P x y) : ∃ v w, [x, y] = [v, w] ∧ P v w := ⟨x, y, rfl, h⟩
theorem st_aug {i : Nat} {ti : TIp} {x : V} (e : σ[i]? = some (some x)) (h : te σ H fun y H1 => ti x y H1 fun z H2 => D.nx (σ.set i (some z)) H2) : tAug i te ti D σ H := ⟨x, e, h⟩
inductive RMx : List V → Hp → VK → Prop
  | mk {i j : Int} {H : Hp} {Q : VK} : (∀ m, i ≤ m → j ≤ m → (m = i ∨ m = j) → Q (.int m) H) → RMx [.int i, .int j] H Q
inductive RMn : List V → Hp → VK → Prop
  | mk {i j : Int} {H : Hp} {Q : VK} : (∀ m, m ≤ i → m ≤ j → (m = i ∨ m = j) → Q (.int m) H) → RMn [.int i, .int j] H Q
inductive RAll : List V → Hp → VK → Prop
  | mk {p : Addr} {bs : List Bool} {H : Hp} {Q : VK} : H p = some (.lst (bs.map V.bl)) → Q (.bl (bs.all id)) H → RAll [.ref p] H Q
inductive RSum : List V → Hp → VK → Prop
  | mk {p : Addr} {ns : List Int} {H : Hp} {Q : VK} : H p = some (.lst (ns.map V.int)) → Q (.int ns.sum) H → RSum [.ref p] H Q
inductive RStarts : V → List V → Hp → VK → Prop
  | mk {x y : Str} {H : Hp} {Q : VK} : Q (.bl (Txt.startswith x y)) H → RStarts (.str x) [.str y] H Q
inductive RFind : V → List V → Hp → VK → Prop
  | mk {x y : Str} {H : Hp} {Q : VK} : Q (.int (Txt.find x y)) H → RFind (.str x) [.str y] H Q
/-- str(x) -/
inductive RStr : List V → Hp → VK → Prop
  | int {i : Int} {H : Hp} {Q : VK} : i.natAbs.log2 < 1920 → Q (.str (toString i)) H → RStr [.int i] H Q
/-- int(x) -/
inductive RInt : List V → Hp → VK → Prop
  | bl {b : Bool} {H : Hp} {Q : VK} : Q (.int (if b then 1 else 0)) H → RInt [.bl b] H Q
  | str {z : Str} {n : Int} {H : Hp} {Q : VK} : PySem.intText? z = some n → z.length ≤ 640 → Q (.int n) H → RInt [.str z] H Q
end
section
variable {X : Cx} {o e : Expr} {to te : TE}
theorem call_maxU (hc : X.calm = true) : CallR X (.builtin "max") RMx := by
  intro pins s σ H xs us Q I r h
  cases h with
  | @mk i j _ _ k =>
    refine call_max2 hc pins s σ H _ us Q I r ⟨i, j, rfl, ?_⟩
    by_cases c : j > i
    · rw [if_pos c]
      exact k j (by omega) (by omega) (.inr rfl)
    · rw [if_neg c]
      exact k i (by omega) (by omega) (.inl rfl)
theorem call_minU (hc : X.calm = true) : CallR X (.builtin "min") RMn := by
  intro pins s σ H xs us Q I r h
  cases h with
  | @mk i j _ _ k =>
    refine call_min2 hc pins s σ H _ us Q I r ⟨i, j, rfl, ?_⟩
    by_cases c : j < i
    · rw [if_pos c]
      exact k j (by omega) (by omega) (.inr rfl)
    · rw [if_neg c]
      exact k i (by omega) (by omega) (.inl rfl)
theorem call_allU (hc : X.calm = true) : CallR X (.builtin "all") RAll := by
  intro pins s σ H xs us Q I r h
  cases h with
  | mk e q => exact cr_all hc pins s σ H _ us Q I r ⟨_, _, rfl, SqL.of e, q⟩
theorem call_sumU (hc : X.calm = true) : CallR X (.builtin "sum") RSum := by
  intro pins s σ H xs us Q I r h
  cases h with
  | mk e q => exact cr_sum hc pins s σ H _ us Q I r ⟨_, _, rfl, SqL.of e, q⟩
end
theorem log2_small {i : Int} (h : i.natAbs < 2 ^ 200) : i.natAbs.log2 < 1920 := by
  by_cases z : i.natAbs = 0
  · rw [z]
    decide
  · have := (Nat.log2_lt z (k := 200)).mpr h
    omega
theorem pe_gi {X : Cx} {x : Str} {p : Pos} {i : Int} (hg : Gl X x) (h : ∃ t, X.mg x = some (.int i t)) (hdb : (x == ("__debug__" : Str)) = false := by decide) : PE X (.Name x p) (tC (.int i)) := let ⟨t, e⟩ := h; pe_glob hg e ⟨t, rfl⟩ hdb
section
variable {H : Hp} {Q : VK} {K : PySem.W.Frag}
theorem ru_mk {g : Int → V} {i : Int} (h : Q (g i) H) : rU g (.int i) H Q := ⟨i, rfl, h⟩
theorem req_int {i j : Int} (q : Q (.bl (decide (i = j))) H) : REq false (.int i) (.int j) H Q := .scal rfl (by
  have e : decide (V.int i = V.int j) = decide (i = j) := by simp
  rw [← e] at q
  exact q)
theorem rne_int {i j : Int} (q : Q (.bl (!decide (i = j))) H) : REq true (.int i) (.int j) H Q := .scal rfl (by
  have e : decide (V.int i = V.int j) = decide (i = j) := by simp
  rw [← e] at q
  exact q)
theorem req_str {i j : Str} (q : Q (.bl (decide (i = j))) H) : REq false (.str i) (.str j) H Q := .scal rfl (by
  have e : decide (V.str i = V.str j) = decide (i = j) := by simp
  rw [← e] at q
  exact q)
theorem rne_str {i j : Str} (q : Q (.bl (!decide (i = j))) H) : REq true (.str i) (.str j) H Q := .scal rfl (by
  have e : decide (V.str i = V.str j) = decide (i = j) := by simp
  rw [← e] at q
  exact q)
theorem ris_non {x : V} (q : Q (.bl (decide (x = .non))) H) : RIs false x .non H Q := .non q
theorem ris_nonN {x : V} (q : Q (.bl (!decide (x = .non))) H) : RIs true x .non H Q := .non q
theorem ris_bl {x : V} {b : Bool} (q : Q (.bl (decide (x = .bl b))) H) : RIs false x (.bl b) H Q := .bl q
theorem ris_blN {x : V} {b : Bool} (q : Q (.bl (!decide (x = .bl b))) H) : RIs true x (.bl b) H Q := .bl q
theorem rin_sign {c : Nat} {z : Str} (q : Q (.bl (decide (c ∈ z.cps.toList))) H) : RIn false (.str ⟨#[c]⟩) (.str z) H Q := .sign q
theorem rni_sign {c : Nat} {z : Str} (q : Q (.bl (!decide (c ∈ z.cps.toList))) H) : RIn true (.str ⟨#[c]⟩) (.str z) H Q := .sign q
end
theorem Ex.of {D D' : Hp} {a : Addr} {o : HO} (h : D a = some o) (x : Ex D D') : D' a = some o := x a o h
/-- a short text of plain signs -/
structure TxtOk (z : Str) : Prop where
  len : z.length ≤ 1000
  sg : ∀ c ∈ z.cps.toList, c < 1000
theorem TxtOk.ok {z : Str} (h : TxtOk z) : PyData.strOk z = true := by
  unfold PyData.strOk
  rw [Array.all_eq_true']
  intro c hc
  have := h.sg c (by simpa using hc)
  simp
  omega
theorem TxtOk.sign {z : Str} {c : Nat} (h : TxtOk z) (m : c ∈ z.cps.toList) : TxtOk ⟨#[c]⟩ := ⟨by show 1 ≤ 1000; decide, fun d hd => by
  simp at hd
  rw [hd]
  exact h.sg c m⟩
/-- how a value may be told apart -/
theorem Kn.told {K : PySem.W.Frag} {H : Hp} {v : V} {k : Knd} (h : Kn K H v k) : (v = .non ∧ k = .non) ∨ (∃ b, v = .bl b ∧ k = .bl) ∨ (∃ i, v = .int i ∧ k = .int) ∨ (∃ z, v = .str z ∧ k = .str) ∨ (∃ a, v = .ref a ∧ (k = .lst ∨ k = .tup ∨ k = .dict ∨ k = .oth)) := by
  cases h with
  | non => exact .inl ⟨rfl, rfl⟩
  | bl b => exact .inr (.inl ⟨b, rfl, rfl⟩)
  | int i => exact .inr (.inr (.inl ⟨i, rfl, rfl⟩))
  | str z => exact .inr (.inr (.inr (.inl ⟨z, rfl, rfl⟩)))
  | lst e => exact .inr (.inr (.inr (.inr ⟨_, rfl, .inl rfl⟩)))
  | frz e => exact .inr (.inr (.inr (.inr ⟨_, rfl, .inl rfl⟩)))
  | tup e => exact .inr (.inr (.inr (.inr ⟨_, rfl, .inr (.inl rfl)⟩)))
  | dict e => exact .inr (.inr (.inr (.inr ⟨_, rfl, .inr (.inr (.inl rfl))⟩)))
  | exc e ed c s => exact .inr (.inr (.inr (.inr ⟨_, rfl, .inr (.inr (.inr rfl))⟩)))
  | excq e ed c s => exact .inr (.inr (.inr (.inr ⟨_, rfl, .inr (.inr (.inr rfl))⟩)))
  | ins e c s => exact .inr (.inr (.inr (.inr ⟨_, rfl, .inr (.inr (.inr rfl))⟩)))
theorem Kn.of_str {K : PySem.W.Frag} {H : Hp} {v : V} {k : Knd} (h : Kn K H v k) (e : k.is "str" = true) : ∃ z, v = .str z ∧ k = .str := by
  rcases h.told with ⟨rfl, rfl⟩ | ⟨b, rfl, rfl⟩ | ⟨i, rfl, rfl⟩ | ⟨z, rfl, rfl⟩ | ⟨a, rfl, hk⟩
  · exact absurd e (by decide)
  · exact absurd e (by decide)
  · exact absurd e (by decide)
  · exact ⟨z, rfl, rfl⟩
  · rcases hk with rfl | rfl | rfl | rfl <;> exact absurd e (by decide)
theorem atI_nat {α : Type} {xs : List α} {i : Nat} : atI xs (i : Int) = xs[i]? := by
  unfold atI ixN
  rw [if_pos (by omega)]
  by_cases h : i < xs.length
  · rw [if_pos (by omega)]
    simp
  · rw [if_neg (by omega)]
    simp at h
    simp [h]
theorem atI_map {α β : Type} {f : α → β} {xs : List α} {i : Nat} {x : α} (h : xs[i]? = some x) : atI (xs.map f) (i : Int) = some (f x) := by
  rw [atI_nat, List.getElem?_map, h]
  rfl
theorem atI_ofI {α : Type} {xs : List α} {i : Int} (h : 0 ≤ i) : atI xs i = xs[i.toNat]? := by
  obtain ⟨n, rfl⟩ := Int.eq_ofNat_of_zero_le h
  rw [atI_nat]
  rfl
end Wk
set_option maxRecDepth 100000
set_option maxHeartbeats 4000000
namespace Wk
open PySem PySem.Spec PyProof.Rows L2
/-- every sign is a plain one -/
def Sg (z : Str) : Prop := ∀ c ∈ z.cps.toList, c < 1000
theorem sg_of {z : Str} (h : (z.cps.toList.all fun c => decide (c < 1000)) = true) : Sg z := fun c hc => of_decide_eq_true (List.all_eq_true.mp h c hc)
theorem len_app (a b : Str) : (a ++ b).length = a.length + b.length := PySem.Str.length_append a b
theorem tl_app (a b : Str) : (a ++ b).cps.toList = a.cps.toList ++ b.cps.toList := by
  rw [PySem.Str.cps_append]
  simp
theorem Sg.app {a b : Str} (h : Sg a) (k : Sg b) : Sg (a ++ b) := fun c hc => by
  rw [tl_app] at hc
  rcases List.mem_append.mp hc with h1 | h1
  · exact h c h1
  · exact k c h1
theorem Sg.cut {z : Str} (h : Sg z) (lo hi : Option Int) : Sg (cutS z lo hi) := fun c hc => by
  unfold cutS at hc
  simp only at hc
  exact h c (List.mem_of_mem_drop (List.mem_of_mem_take (by simpa using hc)))
theorem len_cut (z : Str) (lo hi : Option Int) : (cutS z lo hi).length ≤ z.length := by
  show ((z.cps.toList.drop _).take _).toArray.size ≤ z.length
  rw [List.size_toArray, List.length_take, List.length_drop, cps_len0]
  omega
where cps_len0 {z : Str} : z.cps.toList.length = z.length := rfl
theorem Sg.one {z : Str} {c : Nat} (h : Sg z) (m : c ∈ z.cps.toList) : Sg ⟨#[c]⟩ := fun d hd => by
  simp at hd
  rw [hd]
  exact h c m
/-- a slice, a sum of texts, told by what they are made of alone -/
theorem rsl_some {z : Str} {lo hi : Option Int} {H : Hp} {Q : VK} (hl : z.length ≤ 1000000) (s : Sg z) (k : ∀ y, y.length ≤ z.length → Sg y → Q (.str y) H) : RSl (.str z) lo hi H Q := RSl.str (small_ok hl) (k _ (len_cut ..) (s.cut _ _))
theorem radd_some {a b : Str} {H : Hp} {Q : VK} (hl : a.length + b.length ≤ 1000000) (s1 : Sg a) (s2 : Sg b) (k : ∀ y, y.length = a.length + b.length → Sg y → Q (.str y) H) : RAdd (.str a) (.str b) H Q := RAdd.str (small_ok hl) (k _ (len_app ..) (s1.app s2))
theorem rep_size (a : Array Nat) : ∀ (n : Nat) (acc : Array Nat), ((List.replicate n a).foldl (· ++ ·) acc).size = acc.size + a.size * n
  | 0, acc => by simp
  | n + 1, acc => by
    rw [List.replicate_succ, List.foldl_cons, rep_size a n, Array.size_append, Nat.mul_succ]
    omega
theorem rep_mem (a : Array Nat) {c : Nat} : ∀ (n : Nat) (acc : Array Nat), c ∈ ((List.replicate n a).foldl (· ++ ·) acc).toList → c ∈ acc.toList ∨ c ∈ a.toList
  | 0, acc, h => .inl h
  | n + 1, acc, h => by
    rw [List.replicate_succ, List.foldl_cons] at h
    rcases rep_mem a n _ h with q | q
    · rw [Array.toList_append] at q
      exact List.mem_append.mp q
    · exact .inr q
theorem rmul_some {a : Str} {n : Int} {H : Hp} {Q : VK} (a0 : a.length = 1) (k0 : 1 ≤ n) (k1 : n ≤ 1000) (s : Sg a) (k : ∀ y, y.length = n.toNat → Sg y → Q (.str y) H) : RMul (.str a) (.int n) H Q := by
  refine RMul.str (by omega) (by omega) k0 k1 (k _ ?_ fun c hc => ?_)
  · show ((List.replicate n.toNat a.cps).foldl (· ++ ·) #[]).size = _
    rw [rep_size, show a.cps.size = 1 from a0]
    simp
  · rcases rep_mem a.cps n.toNat #[] hc with q | q
    · simp at q
    · exact s c q
theorem tst {i : Int} (h : i.natAbs < 10 ^ 30) : (Str.ofString (toString i)).length ≤ 31 ∧ Sg (Str.ofString (toString i)) := by
  refine ⟨?_, fun c hc => ?_⟩
  · rw [PySem.ofString_length]
    exact PySem.int_text_length_le10 (by decide) h
  · by_cases q : c < 1000
    · exact q
    · exact absurd hc (PyProof.Rows.int_text_free' c ⟨by omega, by omega⟩ i)
/-- texts of one plain sign each -/
def Ones (ys : List Str) : Prop := ∀ y ∈ ys, y.length = 1 ∧ Sg y
theorem Ones.sum : ∀ {ys : List Str}, Ones ys → (ys.map (·.length)).sum = ys.length
  | [], _ => rfl
  | y :: ys, h => by
    have ih := Ones.sum (ys := ys) fun z hz => h z (List.mem_cons_of_mem _ hz)
    have e := (h y (List.mem_cons_self ..)).1
    simp only [List.map_cons, List.sum_cons, List.length_cons, ih, e]
    omega
theorem Ones.snoc {ys : List Str} {z : Str} {c : Nat} (h : Ones ys) (hz : Sg z) (m : c ∈ z.cps.toList) : Ones (ys ++ [⟨#[c]⟩]) := fun y hy => by
  rcases List.mem_append.mp hy with h1 | h1
  · exact h y h1
  · rw [List.mem_singleton.mp h1]
    exact ⟨rfl, hz.one m⟩
/-- a drawn thing -/
def Th (K : PySem.W.Frag) (D : Hp) (v : V) : Prop := (∃ k, Kn K D v k) ∧ ∀ z, v = .str z → TxtOk z
theorem Th.kn {K : PySem.W.Frag} {D : Hp} {v : V} {k : Knd} (h : Kn K D v k) (n : ∀ z, v ≠ .str z := by intro z e; cases e) : Th K D v := ⟨⟨k, h⟩, fun z e => absurd e (n z)⟩
theorem Th.str {K : PySem.W.Frag} {D : Hp} {z : Str} (h : TxtOk z) : Th K D (.str z) := ⟨⟨_, .str z⟩, fun y e => by cases e; exact h⟩
theorem Th.mono {K : PySem.W.Frag} {D D' : Hp} {v : V} (h : Th K D v) (x : Ex D D') : Th K D' v := by
  obtain ⟨⟨k, a⟩, b⟩ := h
  exact ⟨⟨k, a.mono x⟩, b⟩
/-- one of the items -/
theorem atI_all {α : Type} {xs : List α} {P : α → Prop} {r : Int} (h : ∀ v ∈ xs, P v) (h0 : 0 ≤ r) (h1 : r < xs.length) : ∃ v, atI xs r = some v ∧ P v := by
  obtain ⟨n, rfl⟩ := Int.eq_ofNat_of_zero_le h0
  have hn : n < xs.length := by omega
  refine ⟨xs[n], ?_, h _ (List.getElem_mem hn)⟩
  rw [atI_nat]
  exact List.getElem?_eq_getElem hn
theorem all_c {α : Type} {x : α} {xs : List α} {P : α → Prop} (a : P x) (b : ∀ v ∈ xs, P v) : ∀ v ∈ x :: xs, P v := fun v hv => by
  rcases List.mem_cons.mp hv with e | e
  · rw [e]
    exact a
  · exact b v e
theorem all_n {α : Type} {P : α → Prop} : ∀ v ∈ ([] : List α), P v := fun v hv => by cases hv
/-- a list of which one item is taken -/
theorem RIx.pick {p : Addr} {xs : List V} {P : V → Prop} {r : Int} {H : Hp} {Q : VK} (e : H p = some (.lst xs)) (h : ∀ v ∈ xs, P v) (h0 : 0 ≤ r) (h1 : r < xs.length) (q : ∀ v, P v → Q v H) : RIx (.ref p) (.int r) H Q := by
  obtain ⟨v, e2, hv⟩ := atI_all h h0 h1
  exact RIx.l e e2 (q v hv)
theorem RIx.pickI {p : Addr} {xs : List V} {lo hi r : Int} {H : Hp} {Q : VK} (e : H p = some (.lst xs)) (h : ∀ v ∈ xs, ∃ i : Int, v = .int i ∧ lo ≤ i ∧ i ≤ hi) (h0 : 0 ≤ r) (h1 : r < xs.length) (q : ∀ i : Int, lo ≤ i → i ≤ hi → Q (.int i) H) : RIx (.ref p) (.int r) H Q := RIx.pick e h h0 h1 fun v ⟨i, e, a, b⟩ => by rw [e]; exact q i a b
section
variable {K : PySem.W.Frag} {σ : L2.St} {H : Hp} {Q : VK}
theorem se_dnewK (h : AlD (.dK []) H Q) : tDNewK σ H Q := h
def DispP (p : Addr) (ps : List (V × V)) (H : Hp) (Q : VK) : Prop := H p = some (.dK []) ∧ ∃ kvs : List (Key × V), ps = kvs.map (fun kv => (kV kv.1, kv.2)) ∧ kvs.length ≤ 15 ∧ Q (.ref p) (upd H p (.dK (mergeK [] kvs)))
theorem se_disp {D : Hp} {R : Cells} {trs : List (TE × TE)} (hi : HI H R D) (h : ∀ p H1, HI H1 ((p, .dK []) :: R) D → tPairs trs σ H1 fun ps H2 => DispP p ps H2 Q) : tDisp trs σ H Q := fun p hp => h p _ (hi.new hp)
theorem sp_nil {N : List (V × V) → Hp → Prop} (h : N [] H) : tPairs [] σ H N := h
theorem sp_cons {tk tv : TE} {trs : List (TE × TE)} {N : List (V × V) → Hp → Prop} (h : tk σ H fun x H1 => tv σ H1 fun y H2 => tPairs trs σ H2 fun ps H3 => N ((x, y) :: ps) H3) : tPairs ((tk, tv) :: trs) σ H N := h
def keysOf : List (V × V) → Option (List (Key × V))
  | [] => some []
  | (.int i, v) :: r => (keysOf r).map fun l => (.inl i, v) :: l
  | (.str x, v) :: r => (keysOf r).map fun l => (.inr x, v) :: l
  | _ => none
theorem keysOf_ok : ∀ {ps : List (V × V)} {kvs : List (Key × V)}, keysOf ps = some kvs → ps = kvs.map fun kv => (kV kv.1, kv.2)
  | [], kvs, e => by
    cases e
    rfl
  | (x, v) :: r, kvs, e => by
    cases x with
    | int i =>
      obtain ⟨l, e1, rfl⟩ := Option.map_eq_some_iff.mp (show (keysOf r).map _ = some kvs from e)
      rw [keysOf_ok e1]
      rfl
    | str z =>
      obtain ⟨l, e1, rfl⟩ := Option.map_eq_some_iff.mp (show (keysOf r).map _ = some kvs from e)
      rw [keysOf_ok e1]
      rfl
    | _ => cases e
theorem disp_now {p : Addr} {ps : List (V × V)} {kvs : List (Key × V)} {R : Cells} {D : Hp} (hi : HI H ((p, .dK []) :: R) D) (e : keysOf ps = some kvs) (hl : kvs.length ≤ 15) (k : ∀ H' D', HI H' R D' → Ex D D' → D' p = some (.dK (mergeK [] kvs)) → Q (.ref p) H') : DispP p ps H Q :=
  ⟨hi.get (List.mem_cons_self ..), kvs, keysOf_ok e, hl, k _ _ (hi.set (u := .dK (mergeK [] kvs))).freeze (hi.set (u := .dK (mergeK [] kvs))).freezeX upd_same⟩
end
end Wk
set_option maxRecDepth 100000
set_option maxHeartbeats 4000000
namespace Wk
open PySem PySem.Spec PyProof.Rows L2
def noList (K : PySem.W.Frag) : Bool := K.all fun p => !(p.2.cls == .type "list")
theorem noList_ok : ∀ {K : PySem.W.Frag} {a : Addr} {o : Obj}, noList K = true → K.lookup a = some o → o.cls = .type "list" → False
  | [], a, o, _, e, _ => nomatch (show (none : Option Obj) = some o from e)
  | (b, ob) :: r, a, o, h, e, hc => by
    unfold noList at h
    rw [List.all_cons] at h
    obtain ⟨h1, h2⟩ := He.ba h
    have e2 : (match a == b with | true => some ob | false => List.lookup a r) = some o := e
    cases q : (a == b) with
    | true =>
      rw [q] at e2
      have eo : ob = o := Option.some.inj e2
      rw [eo, hc] at h1
      exact absurd h1 (by decide +kernel)
    | false =>
      rw [q] at e2
      exact noList_ok (K := r) h2 e2 hc
theorem law_endG {l : PySem.W.OpenLaw} {n k : Nat} {q : Program} {loose : List Str} {XP : (Str → Option Value) → Heap → Prop} {YP : World → Heap → Prop} {d : DefRec} {x : Str}
    (hn : l.most = some n) (hn2 : n ≤ sizeLine) (hdf : d.params.defaults = []) (hr : Room k callerA)
    (F : ∀ (w : World) (mg : Str → Option Value) (fa : Addr) (h : Heap), YP w h → h.Ns mainGlobals mg → mg d.name = some (.ref fa) →
      ∃ (K : PySem.W.Frag) (sp : Sp), K.In h ∧ noList K = true ∧ (∀ (s : Shared) (u : Value), BindsTo s (fdOf K fa) ⟨[u], []⟩ [(x, u)]) ∧
        (∀ (H : Hp) (a : Addr) (o : Obj) (ns : List Int), ns.length ≤ n → HI H [] H → H a = some (.frz o (.lst (ns.map V.int))) → sp [.ref a] H (fun v _ => v = .bl true) fun _ _ _ => False) ∧
        ∀ base : Heap, K.In base → base.Ns mainGlobals mg → FnG l.prog w K mg base k fa [x] sp) :
    PySem.W.WalkO q loose XP YP l.row.toRowW d [] (fun f vs => PySem.call f vs) := by
  refine Att.attach_call hn hdf fun w s₀ s₁ mg mb fa o pm cd doc a vs ns G Y ho hd hcd hmg hobj hints hlen hg => ?_
  obtain ⟨K, sp, KX, hno, hb, hsp, hF⟩ := F w mg fa _ Y G.T.g hmg
  have hns := G.T.g
  have ha := hobj
  have hl : ns.length ≤ sizeLine := Nat.le_trans hlen hn2
  have rv := vals_ints hints
  have hk : K.lookup a = none := by
    cases e : K.lookup a with
    | none => rfl
    | some ob =>
      have e1 := KX a ob e
      rw [ha] at e1
      cases e1
      exact (noList_ok hno e rfl).elim
  let H : Hp := fun b => if b = a then some (.frz { cls := .type "list", data := .seq vs.toArray } (.lst (ns.map V.int))) else none
  have Ha : H a = some (.frz { cls := .type "list", data := .seq vs.toArray } (.lst (ns.map V.int))) := if_pos rfl
  have Hn : ∀ {b : Addr}, b ≠ a → H b = none := fun hb => if_neg hb
  have Hs : ∀ {b : Addr} {u : HO}, H b = some u → b = a := fun {b u} z => by
    by_cases hb : b = a
    · exact hb
    · rw [Hn hb] at z
      cases z
  have hok : HOk l.prog w H s₁.heap := fun b u z => by
    have hb := Hs z
    subst hb
    rw [Ha] at z
    cases z
    exact ⟨ha, by rw [List.length_map]; exact hl, vs, _, rv, ha⟩
  have base_of : ∀ {b : Addr} {o : Obj}, s₁.heap.get? b = some o → H b = none → (hidT s₁.heap H).get? b = some o := fun e n => hidT_get e n
  have noA : ∀ {b : Addr} {o : Obj} {es : Array DictEntry} {ep : Nat}, s₁.heap.get? b = some o → o.data = .dict es ep → H b = none := fun {b o es ep} e d => by
    by_cases hb : b = a
    · subst hb
      rw [ha] at e
      cases e
      have d' : Data.seq vs.toArray _ = Data.dict es ep := d
      cases d'
    · exact Hn hb
  have nsK : ∀ {b : Addr} {m : Str → Option Value}, s₁.heap.Ns b m → (hidT s₁.heap H).Ns b m := fun {b m} ⟨o, es, ep, e, d, r⟩ => ⟨o, es, ep, base_of e (noA e d), d, r⟩
  have hKb : K.In (hidT s₁.heap H) := fun b o e => base_of (KX b o e) (by
    by_cases hb : b = a
    · rw [hb, hk] at e
      cases e
    · exact Hn hb)
  have hM : Mod K mg (hidT s₁.heap H) := ⟨hKb, nsK hns, ⟨mb, nsK G.T.b, G.T.builtins⟩, let ⟨mc, h1, h2⟩ := G.T.nolimit; ⟨mc, nsK h1, h2⟩⟩
  have e0 : Env0 l.prog w K mg (hidT s₁.heap H) callerA [] s₁ H := ⟨rfl, hM, fun b o e => of_hidT e, Nat.le_of_eq (hidT_size _ _), trivial, fun b hb => absurd (show b ∈ ([] : List Addr) from hb) (by simp), hok, .of_eq hg⟩
  have hI : HI H [] H := ⟨by simp, (fun p hp => by cases hp), fun b u z => z⟩
  refine codeAny_mono ((hF _ hKb (nsK hns)).run callerA [] s₁ H ⟨[.ref a], []⟩ [.ref a] [.ref a] _ _ rfl hr e0 (hb s₁ (.ref a)) (.cons rfl .nil) (hsp H a _ ns hlen hI Ha)) fun r s' h => ?_
  cases r with
  | error e =>
    obtain ⟨_, _, _, _, _, _, _, _, _, _, _, _, z⟩ := h
    exact z.elim
  | ok fl =>
    cases fl with
    | next => exact False.elim h
    | brk => exact False.elim h
    | cont => exact False.elim h
    | ret u =>
      obtain ⟨v, H', os, bare, un, hok', r', q⟩ := h
      have q' : v = .bl true := q
      subst q'
      obtain rfl : u = Value.bool true := r'
      refine ⟨rfl, OldK.of_keep fun b o e => ?_, os, bare⟩
      by_cases hb : b = a
      · subst hb
        have z2 := un.frzs b _ _ Ha
        obtain ⟨e2, _⟩ := hok' b _ z2
        rw [ha] at e
        cases e
        exact e2
      · exact un.keep b o e (Hn hb) (by intro z; exact absurd (show b ∈ ([] : List Addr) from z) (by simp)) (by simp)
end Wk
set_option maxRecDepth 100000
set_option maxHeartbeats 4000000
namespace Wk
open PySem PySem.Spec PyProof.Rows L2
def seven : List String := ["NoneType", "int", "bool", "str", "list", "tuple", "dict"]
/-- an instance or an exception of an own class -/
inductive Ow (K : PySem.W.Frag) (H : Hp) : V → Addr → Prop where
  | exc {a d C : Addr} {fs : List (Str × V)} (e : H a = some (exo a C (some d))) (ed : H d = some (exd d fs)) (c : ExcC K C) : Ow K H (.ref a) C
  | excq {a d C t1 : Addr} {fs : List (Str × V)} (e : H a = some (exq a C (some d) t1)) (ed : H d = some (exd d fs)) (c : ExcC K C) : Ow K H (.ref a) C
  | ins {a C dx : Addr} {fs : List (Str × V)} (e : H a = some (.ins C dx fs)) (c : InsC K C) : Ow K H (.ref a) C
theorem Ow.mono {K : PySem.W.Frag} {H H' : Hp} {v : V} {C : Addr} (h : Ow K H v C) (x : Ex H H') : Ow K H' v C := by
  cases h with
  | exc e ed c => exact .exc (x _ _ e) (x _ _ ed) c
  | excq e ed c => exact .excq (x _ _ e) (x _ _ ed) c
  | ins e c => exact .ins (x _ _ e) c
def Knd.tn : Knd → Option String
  | .non => some "NoneType"
  | .bl => some "bool"
  | .int => some "int"
  | .str => some "str"
  | .lst => some "list"
  | .tup => some "tuple"
  | .dict => some "dict"
  | .oth => none
/-- a value's type -/
inductive Ty (K : PySem.W.Frag) (H : Hp) : V → Value → Prop where
  | b {v : V} {k : Knd} {n : String} (h : Kn K H v k) (hn : n ∈ seven) (e : k.tn = some n) : Ty K H v (.type n)
  | o {v : V} {C : Addr} (h : Ow K H v C) : Ty K H v (.ref C)
end Wk
set_option maxRecDepth 100000
set_option maxHeartbeats 4000000
namespace Wk
open PySem PySem.Spec PyProof.Rows L2
structure PC (K : PySem.W.Frag) (C : Addr) (fl : List Str) : Prop where
  c : Cls K C
  n : ∀ f ∈ fl, NoAttr K C f
def FldP (K : PySem.W.Frag) (f : Str) (x : V) (H : Hp) (Q : VK) : Prop := ∃ a C dx fs v, x = .ref a ∧ H a = some (.ins C dx fs) ∧ Cls K C ∧ NoAttr K C f ∧ fs.lookup f = some v ∧ Q v H
def SFldP (K : PySem.W.Frag) (f : Str) (x y : V) (H : Hp) (N : Hp → Prop) : Prop := ∃ a C dx fs, x = .ref a ∧ H a = some (.ins C dx fs) ∧ Cls K C ∧ NoAttr K C f ∧ fs.length < 1000 ∧ N (upd H a (.ins C dx (putF f y fs)))
def MethP (C : Addr) (m : Str) (x : V) (H : Hp) (N : Prop) : Prop := ∃ a dx fs, x = .ref a ∧ H a = some (.ins C dx fs) ∧ fs.lookup m = none ∧ N
def MakeP (C : Addr) (sp : Sp) (vs : V → List V) (H : Hp) (Q : VK) (E : XK) : Prop := ∀ x dx, H x = none → H dx = none → dx ≠ x → sp (vs (.ref x)) (upd (upd H dx (.own x)) x (.ins C dx [])) (fun v H2 => v = .non ∧ Q (.ref x) H2) E
section
variable {K : PySem.W.Frag} {σ : L2.St} {H D : Hp} {R : Cells} {Q : VK} {ta tv : TE} {t tk : TA} {f m : Str} {C a dx : Addr} {fs : List (Str × V)} {fl : List Str} {x y v : V} {sp : Sp} {dvs : List V} {E : L2.St → XK} {Ds : Ends}
theorem se_fld (h : ta σ H fun x H1 => FldP K f x H1 Q) : tFld K ta f σ H Q := h
theorem st_fld (h : tv σ H fun y H1 => ta σ H1 fun x H2 => SFldP K f x y H2 fun H3 => Ds.nx σ H3) : sFld K ta tv f Ds σ H := h
theorem fld_mk (e : H a = some (.ins C dx fs)) (pc : PC K C fl) (hf : f ∈ fl) (l : fs.lookup f = some v) (q : Q v H) : FldP K f (.ref a) H Q := ⟨a, C, dx, fs, v, rfl, e, pc.c, pc.n f hf, l, q⟩
theorem sfld_now {N : Hp → Prop} (hi : HI H ((a, .ins C dx fs) :: R) D) (pc : PC K C fl) (hf : f ∈ fl) (hl : fs.length < 1000) (k : ∀ H', HI H' ((a, .ins C dx (putF f y fs)) :: R) D → N H') : SFldP K f (.ref a) y H N :=
  ⟨a, C, dx, fs, rfl, hi.get (List.mem_cons_self ..), pc.c, pc.n f hf, hl, k _ hi.set⟩
theorem se_meth (h : ta σ H fun x H1 => MethP C m x H1 (t σ H1 fun vs H2 => sp (x :: (vs ++ dvs)) H2 Q (E σ))) : gMeth C m sp dvs E ta t σ H Q := h
theorem meth_mk {N : Prop} (e : H a = some (.ins C dx fs)) (l : fs.lookup m = none) (h : N) : MethP C m (.ref a) H N := ⟨a, dx, fs, rfl, e, l, h⟩
theorem se_make (h : t σ H fun vs H1 => MakeP C sp (fun x => x :: (vs ++ dvs)) H1 Q (E σ)) : gMake C sp dvs E t σ H Q := h
theorem make_now {vs : V → List V} {E : XK} (hi : HI H R D) (k : ∀ x dx H', HI H' ((x, .ins C dx []) :: (dx, .own x) :: R) D → sp (vs (.ref x)) H' (fun v H2 => v = .non ∧ Q (.ref x) H2) E) : MakeP C sp vs H Q E := fun x dx hx hd ne => by
  have h1 := hi.new (o := .own x) hd
  exact k x dx _ (h1.new (o := .ins C dx []) (by rw [upd_ne ne.symm]; exact hx))
end
/-- the instance stands -/
theorem HI.freezeI {H D : Hp} {R : Cells} {a dx C : Addr} {fs : List (Str × V)} (h : HI H ((a, .ins C dx fs) :: (dx, .own a) :: R) D) : ∃ D', HI H R D' ∧ Ex D D' ∧ D' a = some (.ins C dx fs) := by
  have h1 := h.freeze
  have h2 := h1.freeze
  refine ⟨_, h2, h.freezeX.trans h1.freezeX, ?_⟩
  have ne : a ≠ dx := fun e => by
    have nd := h.nd
    simp only [List.map_cons] at nd
    exact (List.nodup_cons.mp nd).1 (by rw [e]; exact List.mem_cons_self ..)
  rw [upd_ne ne]
  exact upd_same
def gMethN (C : Addr) (m : Str) (n j : Nat) (sp : Sp) (gV : List V → List V → List V) (E : L2.St → XK) (ta : TE) (t tk : TA) : TE := fun σ H Q => ta σ H fun x H1 => MethP C m x H1 (t σ H1 fun vs H2 => tk σ H2 fun zs H3 => vs.length = n ∧ zs.length = j ∧ sp (gV (x :: vs) zs) H3 Q (E σ))
def gMakeN (C : Addr) (n j : Nat) (sp : Sp) (gV : List V → List V → List V) (E : L2.St → XK) (t tk : TA) : TE := fun σ H Q => t σ H fun vs H1 => tk σ H1 fun zs H2 => vs.length = n ∧ zs.length = j ∧ MakeP C sp (fun x => gV (x :: vs) zs) H2 Q (E σ)
section
variable {X : Cx} {k n : Nat} {f C : Addr} {ps ks : List Str} {sp : Sp} {E : L2.St → XK} {x m : Str} {p pos apos : Pos} {e o : Expr} {es : List Expr} {kws : List Keyword} {t tk : TA} {ta : TE} {gV : List V → List V → List V}
theorem ge_methN {pl : Sem Bool} (he : PE X o ta) (c : Cls X.K C) (hm : Meth X.K C m f) (F : FnG X.prog X.w X.K X.mg X.base k f ps sp) (hgu : X.A.guards = some []) (hr : Room k X.A) (hb : KB X.K (fdOf X.K f) ps (n + 1) ks gV) (hx : ∀ σ, PassG X σ (E σ)) (ha : PA X (e :: es) t) (hkw : PK X kws tk)
    (hall : (backToKw pos (keywordEach kws X.env)).all (·.1.isSome) = true := by rfl) (hks : (backToKw pos (keywordEach kws X.env)).filterMap (·.1) = ks := by rfl) (hst : starEach (e :: es) X.env = (false, eval e X.env) :: starEach es X.env := by rfl)
    (hpl : ((backTo pos (starEach (e :: es) X.env)).any (·.1) || (backToKw pos (keywordEach kws X.env)).any (·.1.isNone)) = false := by rfl)
    (ht : eval (.Call (.Attribute o m apos) (e :: es) kws pos) X.env = (do
      let ov ← eval o X.env
      standAt apos.atName
      let (f, first) ← holding [ov] (getMethod ov m pl)
      callWith pos f first (backTo pos (starEach (e :: es) X.env)) (backToKw pos (keywordEach kws X.env))) := by rfl) :
    PE X (.Call (.Attribute o m apos) (e :: es) kws pos) (gMethN C m n ks.length sp gV E ta t tk) := by
  refine ⟨fun pins s σ H Q I h => ?_⟩
  refine PySem.W.methodCall_KW (pl := pl) (thn (he.run pins s σ H _ I h) fun u s1 ⟨x, H1, I1, rx, a, dx, fs, ex, ea, l, q⟩ => ?_) ht
  subst ex
  obtain rfl : u = Value.ref a := rx
  refine getmeth_ok I1 ea c hm l ?_
  refine PySem.W.callWith_KW (first := [.ref a]) (h₀ := X.base) I.ok.mod.kin hm.kp hall (thn (ha.run pos pins s1 σ H1 _ I1 q) fun us s2 ⟨vs, H2, I2, r, q2⟩ => ?_) hpl hst
  refine thn (hkw.run pos pins s2 σ H2 _ I2 q2) fun ws s3 ⟨zs, H3, I3, rz, l1, l2, q3⟩ => ⟨I3.kIn, ?_⟩
  rw [hks]
  exact run_gN (us := Value.ref a :: us) (vs := V.ref a :: vs) F hgu hr hb (hx σ) I3 (.cons (show L2.RelV (.ref a) (.ref a) from rfl) r) rz (congrArg Nat.succ l1) l2 q3
theorem run_mk {pins : List (Addr × Obj)} {σ : L2.St} {H : Hp} {s : Shared} {Q : VK} {us ws : List Value} {vs zs : List V} (M : Mk X.K C f) (F : FnG X.prog X.w X.K X.mg X.base k f ps sp) (hgu : X.A.guards = some []) (hr : Room (k + 1) X.A) (hb : KB X.K (fdOf X.K f) ps (n + 1) ks gV) (hx : PassG X σ (E σ))
    (I : Inv X pins σ H s) (r : Vals vs us) (rz : Vals zs ws) (l1 : vs.length = n) (l2 : zs.length = ks.length) (h : MakeP C sp (fun x => gV (x :: vs) zs) H Q (E σ)) : wpAny (model X.prog X.w) X.A (call (.ref C) us (ks.zip ws)) (EP X pins σ Q) X.xe s := by
  obtain ⟨g, hb⟩ := hb
  exact run_makeG M F hgu hr hx I (fun y => gV (y :: vs) zs) (fun y => g (y :: us) ws) (fun y s' KX => hb.to s' (Value.ref y :: us) ws KX (congrArg Nat.succ (r.length.symm.trans l1)) (rz.length.symm.trans l2)) (fun y => hb.rel (.cons (show L2.RelV (.ref y) (.ref y) from rfl) r) rz) h
/-- C(e, .., k = v, ..) -/
theorem ge_makeN (M : Mk X.K C f) (F : FnG X.prog X.w X.K X.mg X.base k f ps sp) (hgu : X.A.guards = some []) (hr : Room (k + 1) X.A) (hg : Gl X x) (hm : X.mg x = some (.ref C)) (hb : KB X.K (fdOf X.K f) ps (n + 1) ks gV) (hx : ∀ σ, PassG X σ (E σ)) (ha : PA X (e :: es) t) (hkw : PK X kws tk)
    (hdb : (x == ("__debug__" : Str)) = false := by decide) (hall : (backToKw pos (keywordEach kws X.env)).all (·.1.isSome) = true := by rfl) (hks : (backToKw pos (keywordEach kws X.env)).filterMap (·.1) = ks := by rfl)
    (he : starEach (e :: es) X.env = (false, eval e X.env) :: starEach es X.env := by rfl)
    (hpl : ((backTo pos (starEach (e :: es) X.env)).any (·.1) || (backToKw pos (keywordEach kws X.env)).any (·.1.isNone)) = false := by rfl) :
    PE X (.Call (.Name x p) (e :: es) kws pos) (gMakeN C n ks.length sp gV E t tk) := by
  refine ⟨fun pins s σ H Q I h => ?_⟩
  refine wpAny_Call_Name_kw (ld_glob I hg hm ?_ hdb)
  refine PySem.W.callWith_KW (h₀ := X.base) I.ok.mod.kin M.kp hall (thn (ha.run pos pins s σ H _ I h) fun us s1 ⟨vs, H1, I1, r, q⟩ => ?_) hpl he
  refine thn (hkw.run pos pins s1 σ H1 _ I1 q) fun ws s2 ⟨zs, H2, I2, rz, l1, l2, q2⟩ => ⟨I2.kIn, ?_⟩
  rw [hks]
  exact run_mk M F hgu hr hb (hx σ) I2 r rz l1 l2 q2
theorem se_methN {σ : L2.St} {H : Hp} {Q : VK} {j : Nat} (h : ta σ H fun x H1 => MethP C m x H1 (t σ H1 fun vs H2 => tk σ H2 fun zs H3 => vs.length = n ∧ zs.length = j ∧ sp (gV (x :: vs) zs) H3 Q (E σ))) : gMethN C m n j sp gV E ta t tk σ H Q := h
theorem se_makeN {σ : L2.St} {H : Hp} {Q : VK} {j : Nat} (h : t σ H fun vs H1 => tk σ H1 fun zs H2 => vs.length = n ∧ zs.length = j ∧ MakeP C sp (fun x => gV (x :: vs) zs) H2 Q (E σ)) : gMakeN C n j sp gV E t tk σ H Q := h
end
def insB (n : Str) (K : PySem.W.Frag) : Bool := He.eqO (PySem.W.findIn K (.ref (He.ga K n)) "__class__") (some (some (.builtin "object.__class__"))) && (He.eqO (PySem.W.specialIn K (.builtin "object.__class__") "__get__") (some (some (.builtin "getset_descriptor.__get__"))) && (eqB (PySem.W.takesIn K (.builtin "object.__class__")) (some true) && eqB (PySem.W.mroIn K (He.ga K n) (.type "object")) (some true)))
def pcB (n : Str) (fl : List Str) (K : PySem.W.Frag) : Bool := fl.all fun f => (He.Fa.noat n f).ok K
theorem pc_ok {K : PySem.W.Frag} {n : Str} {fl : List Str} (c : Cls K (He.ga K n)) (h : pcB n fl K = true) : PC K (He.ga K n) fl := ⟨c, fun f hf => He.noat_ok (List.all_eq_true.mp h f hf)⟩
def neB (n : Str) (K : PySem.W.Frag) : Bool := He.eqO (PySem.W.findIn K (.ref (He.ga K n)) "__ne__") (some (some (.builtin "object.__ne__")))
def nfB (n : Str) (K : PySem.W.Frag) : Bool := seven.all fun t => PySem.W.notFirst K (He.ga K n) (.type t)
def nfC (n x : Str) (K : PySem.W.Frag) : Bool := PySem.W.notFirst K (He.ga K n) (.ref (He.ga K x))
/-- no kit type stands above the class -/
def sbB (n : Str) (K : PySem.W.Frag) : Bool := seven.all fun t => eqB (PySem.W.subIn K (.ref (He.ga K n)) (.type t)) (some false)
def kbB (n : Str) (K : PySem.W.Frag) : Bool := seven.all fun t => eqB (PySem.W.kitOne K (.type t) (.ref (He.ga K n))) (some false)
def kiB (x n : Str) (b : Bool) (K : PySem.W.Frag) : Bool := eqB (PySem.W.kitOne K (.ref (He.ga K x)) (.ref (He.ga K n))) (some b)
inductive RFmt : V → Hp → VK → Prop
  | str {z : Str} {H : Hp} {Q : VK} : z.length ≤ 1000000 → Q (.str z) H → RFmt (.str z) H Q
  | int {i : Int} {H : Hp} {Q : VK} : i.natAbs.log2 < 1920 → Q (.str (toString i)) H → RFmt (.int i) H Q
def tFmtU (te : TE) : TE := fun σ H Q => te σ H fun x H1 => RFmt x H1 Q
theorem sj_nil {σ : L2.St} {H : Hp} {acc : Str} {Q : Str → Hp → Prop} (h : Q acc H) : tJs [] acc σ H Q := h
theorem sj_cons {σ : L2.St} {H : Hp} {acc : Str} {t : TE} {ts : List TE} {Q : Str → Hp → Prop} (h : t σ H fun x H1 => ∃ y : Str, x = .str y ∧ (acc ++ y).length ≤ sizeLine ∧ tJs ts (acc ++ y) σ H1 Q) : tJs (t :: ts) acc σ H Q := h
theorem js_mk {acc z : Str} {P : Str → Prop} (hl : acc.length + z.length ≤ 1000000) (q : P z) : ∃ y : Str, V.str z = .str y ∧ (acc ++ y).length ≤ sizeLine ∧ P y := ⟨z, rfl, small_ok (by rw [len_app]; exact hl), q⟩
theorem se_fmt {te : TE} {σ : L2.St} {H : Hp} {Q : VK} (h : te σ H fun x H1 => RFmt x H1 Q) : tFmtU te σ H Q := h
end Wk
set_option maxRecDepth 100000
set_option maxHeartbeats 4000000
namespace Wk
open PySem PySem.Spec PyProof.Rows L2
/-- the clauses: each a name, bound; those that nothing reaches are left out -/
inductive HdsA (X : Cx) (Wout : WX) : List ExceptHandler → (Ends → WX) → Prop
  | nil : HdsA X Wout [] (fun _ => Wout)
  | never {hds : List ExceptHandler} : HdsA X Wout hds (fun _ _ _ _ _ => False)
  | asn {x n : Str} {c : Value} {i : Nat} {ts : Addr → Value → Option Addr → TS} {b₀ : Stmt} {suite : List Stmt} {np pos' : Pos} {hds : List ExceptHandler} {r : Ends → WX} (hi : X.N[i]? = some n) (hln : X.env.kindOf n = some .local) (hc : Names X x c)
      (hsu : ∀ (a : Addr) (oe : Obj) (cls : Value) (d : Option Addr) (pn : List (Addr × Obj)), Zc cls d oe → (∃ vs, oe.data = .fields vs) → PSs (X.suite a ((a, oe) :: pn)) (b₀ :: suite) (ts a cls d)) (hr : HdsA X Wout hds r) :
      HdsA X Wout (.ExceptHandler (some (.Name x np)) (some n) (b₀ :: suite) pos' :: hds) (fun D => wAs X.K c i ts (r D) D)
def tTryA (tb : WX → TS) (w : Ends → WX) : TS := fun D σ H => tb (w D) D σ H
section
variable {X : Cx} {body : List Stmt} {h₀ : ExceptHandler} {hds : List ExceptHandler} {pos : Pos} {tb : WX → TS} {Wout : WX} {w : Ends → WX}
theorem ps_try_A (hs : X.stack = X.env :: X.outer) (hf : X.env.frame = some X.env.locals) (hN : X.N.Nodup) (tk : Takes X Wout)
    (hb : ∀ (W : WX) (pn : List (Addr × Obj)) (xe : Value → Shared → Prop), Takes (X.tr pn xe) W → PassesOwn (model X.prog X.w) X.A X.env xe → PSs (X.tr pn xe) body (tb W))
    (hh : HdsA X Wout (h₀ :: hds) w) : PS X (.Try body (h₀ :: hds) [] [] pos) (tTryA tb w) := by
  refine ⟨fun pins s σ H D I h => ?_⟩
  have ok := I.ok
  have hfr : X.A.frames = some (X.env :: X.outer) := by rw [ok.frames, hs]
  refine wpAny_Try_except ?_
  refine wpAny_mono ((hb (w D) (X.pn ++ pins) (fun e s₁ => wpAny (model X.prog X.w) X.A (noteFrame e X.env) (fun _ s₂ => wpAny (model X.prog X.w) X.A (setFlight e none) (fun _ s₃ =>
    wpAny (model X.prog X.w) X.A (handleBy e X.env (h₀ :: hds)) (SP X pins D) X.xe s₃) X.xe s₂) X.xe s₁) (fun u s' xx => ?_) PassesOwn.looking).run [] s σ H D (I.toTry _) h) (fun f s1 hsp => ?_) (fun e s1 he => he)
  · -- the catch
    obtain ⟨a, B, sI, pins', σ', H', cls, d, rfl, J', nb, up, sky, na, os, ag, w'⟩ := xx
    have J : Inv X pins σ' H' sI := J'.ofTry ok
    have sky' : Sky B (X.env :: X.outer) a (Zc cls d) X.env.locals s'.heap := by rw [← hs]; exact sky
    show wpAny (model X.prog X.w) X.A (noteFrame (.ref a) X.env) _ _ _
    refine Sky.land Zc.steady hfr hf sky' fun h3 fl3 up3 => ?_
    have J3 : Inv X pins σ' H' { s' with heap := h3 } := J.landed nb fl3.1 (up.trans up3) os ag
    obtain ⟨oe3, vs3, he3, hz3, hd3⟩ := fl3.there
    have notFr : ∀ {h : Heap} {o : Obj} {vs : Array Value}, h.FunFrames B (X.env :: X.outer) → h.get? a = some o → o.data = .fields vs → a ∉ frs (X.env :: X.outer) := fun {h o vs} ff e dd hm => by
      obtain ⟨_, o', e', hnf⟩ := ff.mem hm
      rw [e] at e'; cases e'
      exact hnf _ dd
    have nfr := notFr fl3.2.2.1 he3 hd3
    have nL : a ≠ X.env.locals := fun z => nfr (List.mem_filterMap.mpr ⟨X.env, List.mem_cons_self, by rw [hf, z]⟩)
    have nF : a ∉ X.fs := fun hm => by
      obtain ⟨e, he, q⟩ := List.mem_filterMap.mp hm
      exact nfr (List.mem_filterMap.mpr ⟨e, List.mem_cons_of_mem _ he, q⟩)
    have S3 := J3.suite he3 hd3 na nL nF
    have go : ∀ {hds' : List ExceptHandler} {w2 : Ends → WX}, HdsA X Wout hds' w2 → w2 D cls d σ' H' →
        wpAny (model X.prog X.w) X.A (handleBy (.ref a) X.env hds') (SP X pins D) X.xe { s' with heap := h3 } := by
      intro hds' w2 hk
      induction hk with
      | never =>
        intro w
        exact w.elim
      | nil =>
        intro w
        refine wpAny_handleBy_nil ?_
        obtain ⟨k1, k2, k3, oe, vs, T, oT, ts', he, hz, hd, h1, hr⟩ := id fl3
        unfold PySem.passOn
        refine wpAny_bind (wpAny_field he hd h1 ?_)
        rw [if_neg (show ¬ ((Value.ref T == Value.none) = true) from by simp)]
        have fin : wpAny (model X.prog X.w) X.A (setFlight (.ref a) X.env.frame) (fun _ s4 => wpAny (model X.prog X.w) X.A (throw (.ref a) : Sem Flow) (SP X pins D) X.xe s4) X.xe { s' with heap := h3 } := by
          rw [hf]
          refine HandSPX.setFlight_upZ fl3 fun h4 hh4 up4 => wpAny_throw (tk _ _ ?_)
          exact ⟨a, B, sI, pins, σ', H', cls, d, rfl, J, nb, (up.trans up3).trans up4, .inr (.inr (by rw [hs]; exact hh4)), na, os, ag, w⟩
        first
          | exact wpAny_bind (wpAny_pure (wpAny_bind fin))
          | exact wpAny_bind fin
      | @asn x n c i ts b₀ suite np pos' hds2 r2 hi hln hc hsu r ih =>
        intro w
        obtain ⟨b, hb1, hyes, hno⟩ := w
        have hloc : Loc X.env.scope n := .inl hln
        refine wpAny_handleBy_cons (codeAny_handlers_test ?_) (by intro q; cases q)
        have LT : PySem.W.Looks (model X.prog X.w) h3 (typeOf (.ref a)) cls := fun A Q E s k q => wpAny_typeOf_ref (k _ _ he3) (by rw [hz3.1]; exact q)
        have LM := PySem.W.exm_one (M := model X.prog X.w) (J3.kIn) LT hb1
        have test : ∀ {Q : Value → Shared → Prop} {E : Value → Shared → Prop}, Q c { s' with heap := h3 } → wpAny (model X.prog X.w) (X.A.mark (some (.ref a))) (eval (.Name x np) X.env) Q E { s' with heap := h3 } := fun {Q E} q => by
          obtain ⟨hg, hdbg, hm | ⟨hm, hv, hnn⟩⟩ := hc
          · exact ld_glob (X := X.suite a ((a, oe3) :: (X.pn ++ pins))) S3 hg hm q hdbg
          · exact ld_blt (X := X.suite a ((a, oe3) :: (X.pn ++ pins))) S3 hg hm hv q hnn hdbg
        refine test (LM.here ?_)
        cases b with
        | true =>
          refine codeAny_handlers_suite_as ?_
          refine HandSPX.lands_againZ fl3 fun h4 fl4 up4 => ?_
          have J4 : Inv X pins σ' H' { s' with heap := h4 } := J.landed nb fl4.1 ((up.trans up3).trans up4) os ag
          obtain ⟨oe4, vs4, he4, hz4, hd4⟩ := fl4.there
          have S4 := J4.suite he4 hd4 na nL nF
          refine store_ok (X := X.suite a ((a, oe4) :: (X.pn ++ pins))) (v := .ref a) S4 hN hi hloc rfl (fun s5 S5 => ?_) (.inr hln)
          refine wpAny_mono ((hsu a oe4 cls d (X.pn ++ pins) hz4 ⟨_, hd4⟩).run [] s5 _ H' _ S5 (hyes rfl a na)) (fun f s6 hsp => ?_) (fun _ _ z => False.elim z)
          have end_ : ∀ {σ6 : L2.St} {H6 : Hp} {Q : Shared → Prop}, Inv (X.suite a ((a, oe4) :: (X.pn ++ pins))) [] σ6 H6 s6 → (∀ s7, Inv X pins (σ6.set i none) H6 s7 → Q s7) →
              wpAny (model X.prog X.w) X.A (do bindName X.env n .none; unbindBehindTheSuite X.env n pos') (fun _ s7 => Q s7) X.xe s6 := fun {σ6 H6 Q} S6 hq => gone_ok (S6.unsuite ok) hN hi hln hq
          cases f with
          | next =>
            obtain ⟨σ6, H6, S6, q6⟩ := hsp
            exact end_ S6 fun s7 J7 => ⟨_, _, J7, q6⟩
          | brk =>
            obtain ⟨σ6, H6, S6, q6⟩ := hsp
            exact end_ S6 fun s7 J7 => ⟨_, _, J7, q6⟩
          | cont =>
            obtain ⟨σ6, H6, S6, q6⟩ := hsp
            exact end_ S6 fun s7 J7 => ⟨_, _, J7, q6⟩
          | ret u =>
            obtain ⟨v6, σ6, H6, S6, r6, q6⟩ := hsp
            exact end_ S6 fun s7 J7 => ⟨_, _, _, J7, r6, q6⟩
        | false =>
          show wpAny _ X.A (handleBy (.ref a) X.env hds2) _ _ _
          exact ih (hno rfl)
    exact go hh w'
  · cases f with
    | next =>
      obtain ⟨σ', H', J', q⟩ := hsp
      exact wpAny_execs_nil ⟨σ', H', J'.ofTry ok, q⟩
    | brk =>
      obtain ⟨σ', H', J', q⟩ := hsp
      exact ⟨σ', H', J'.ofTry ok, q⟩
    | cont =>
      obtain ⟨σ', H', J', q⟩ := hsp
      exact ⟨σ', H', J'.ofTry ok, q⟩
    | ret u =>
      obtain ⟨v, σ', H', J', r, q⟩ := hsp
      exact ⟨v, σ', H', J'.ofTry ok, r, q⟩
end
section
variable {K : PySem.W.Frag} {σ : L2.St} {H : Hp} {Q : VK} {D : Ends} {tb : WX → TS} {w : Ends → WX} {cls : Value} {d : Option Addr} {c : Value} {i : Nat} {ts : Addr → Value → Option Addr → TS} {Wr : WX}
theorem st_try (h : tb (w D) D σ H) : tTryA tb w D σ H := h
def gone (D : Ends) (i : Nat) : Ends := { nx := fun σ' H' => D.nx (σ'.set i none) H', rt := D.rt, bk := fun σ' H' => D.bk (σ'.set i none) H', ct := fun σ' H' => D.ct (σ'.set i none) H' }
theorem as_yes (e : PySem.W.exmOne K cls c = some true) (h : ∀ a, H a = none → ts a cls d (gone D i) (σ.set i (some (.ref a))) H) : wAs K c i ts Wr D cls d σ H := ⟨true, e, fun _ => h, fun z => by cases z⟩
theorem as_no (e : PySem.W.exmOne K cls c = some false) (h : Wr cls d σ H) : wAs K c i ts Wr D cls d σ H := ⟨false, e, (fun z => by cases z), fun _ => h⟩
end
def ByP (K : PySem.W.Frag) (f : Str) (a : Addr) (cls : Value) (d : Option Addr) (x : V) (H : Hp) (Q : VK) : Prop := x = .ref a ∧ ∃ (C dd : Addr) (v : V), cls = .ref C ∧ ExcC K C ∧ PySem.W.findIn K (.ref C) f = some none ∧ d = some dd ∧ H dd = some (.xd [(f, v)]) ∧ Q v H
def tByX (K : PySem.W.Frag) (f : Str) (a : Addr) (cls : Value) (d : Option Addr) (te : TE) : TE := fun σ H Q => te σ H fun x H1 => ByP K f a cls d x H1 Q
section
variable {X : Cx} {a : Addr} {oe : Obj} {cls : Value} {d : Option Addr} {pn : List (Addr × Obj)} {e : Expr} {te : TE} {pos : Pos} {f : Str}
theorem pe_byX (hz : Zc cls d oe) (hf : ∃ vs, oe.data = .fields vs) (he : PE (X.suite a ((a, oe) :: pn)) e te) (hb : attributeBase e f X.env (eval e X.env) = eval e X.env := by rfl) :
    PE (X.suite a ((a, oe) :: pn)) (.Attribute e f pos) (tByX X.K f a cls d te) := by
  refine ⟨fun pins s σ H Q I h => ?_⟩
  refine attr_of hb (thn (he.run pins s σ H _ I h) fun u s1 hh => ?_)
  obtain ⟨x, H1, I1, rx, ex, C, dd, v, ec, T, no, ed, ea, q⟩ := hh
  subst ex
  obtain rfl : u = Value.ref a := rx
  subst ec
  subst ed
  obtain ⟨ha, _⟩ := I1.pin (a, oe) (List.mem_append_left _ List.mem_cons_self)
  obtain ⟨vs, hd⟩ := hf
  have hx : ObjOk X.prog X.w H1 s1.heap dd (.xd [(f, v)]) := I1.hok dd _ ea
  obtain ⟨mA, hns, hr⟩ := hx
  obtain ⟨od, ho, hl⟩ := lookIn_ns hns
  have l : List.lookup f [(f, v)] = some v := by simp [List.lookup]
  obtain ⟨u, hu, ru⟩ := RelO.some_of (v := v) (o := mA f) (by rw [← l]; exact hr f)
  have J : PySem.W.InstAt s1.heap a oe C (some od) := ⟨ha, hz.1, by unfold PySem.W.notCls; rw [hd] <;> rfl, by rw [hz.2]; exact ho⟩
  exact HandSPX.exc_get I1.kIn J T.hg T.hk T.hs (PySem.W.findObj_own T.hd no rfl (by rw [hl, hu])) (handed_of ru) ⟨v, H1, I1.tok _, ru, q⟩
end
section
variable {K : PySem.W.Frag} {σ : L2.St} {H : Hp} {Q : VK} {te : TE} {f : Str} {a : Addr} {cls : Value} {d : Option Addr}
theorem se_by (h : te σ H fun x H1 => ByP K f a cls d x H1 Q) : tByX K f a cls d te σ H Q := h
theorem by_mk {C dd : Addr} {v : V} (E : ExcC K C) (no : PySem.W.findIn K (.ref C) f = some none) (ea : H dd = some (.xd [(f, v)])) (q : Q v H) : ByP K f a (.ref C) (some dd) (.ref a) H Q := ⟨rfl, C, dd, v, rfl, E, no, rfl, ea, q⟩
end
def exmB (x c : Str) (b : Bool) (K : PySem.W.Frag) : Bool := eqB (PySem.W.exmOne K (.ref (He.ga K x)) (.ref (He.ga K c))) (some b)
end Wk
set_option maxRecDepth 100000
set_option maxHeartbeats 4000000
namespace Wk
open PySem PySem.Spec PyProof.Rows L2
section
variable {K : PySem.W.Frag} {σ : L2.St} {H : Hp} {ta tl : TA} {te : TE} {R : It → Hp → Prop} {a b : Addr} {xs ys : List V}
theorem it_zip (h : ta σ H fun vs H1 => ∃ a b xs ys, vs = [.ref a, .ref b] ∧ SqL K H1 a xs ∧ SqL K H1 b ys ∧ R (Itz K a b) H1) : iZip K ta σ H R := h
theorem zip_mk {P : Addr → Addr → Prop} (h1 : H a = some (.lst xs)) (h2 : H b = some (.lst ys)) (q : P a b) : ∃ a' b' xs ys, [V.ref a, V.ref b] = [.ref a', .ref b'] ∧ SqL K H a' xs ∧ SqL K H b' ys ∧ P a' b' := ⟨a, b, xs, ys, rfl, SqL.of h1, SqL.of h2, q⟩
theorem it_enum (h : ta σ H fun vs H1 => ∃ a xs, vs = [.ref a] ∧ SqL K H1 a xs ∧ R (Ite K a) H1) : iEnum K ta σ H R := h
theorem enum_mk {P : Addr → Prop} (h1 : H a = some (.lst xs)) (q : P a) : ∃ a' xs, [V.ref a] = [.ref a'] ∧ SqL K H a' xs ∧ P a' := ⟨a, xs, rfl, SqL.of h1, q⟩
theorem rne_same {z : Str} {Q : VK} (q : Q (.bl false) H) : REq true (.str z) (.str z) H Q := rne_str (by rw [decide_eq_true rfl]; exact q)
theorem req_same {z : Str} {Q : VK} (q : Q (.bl true) H) : REq false (.str z) (.str z) H Q := req_str (by rw [decide_eq_true rfl]; exact q)
theorem it_tup (h : te σ H fun x H1 => ∃ a, x = .ref a ∧ (∃ xs, SqT K H1 a xs) ∧ R (Itt K a) H1) : iTup K te σ H R := h
theorem tupI_mk {P : Addr → Prop} (h : H a = some (.tup xs)) (q : P a) : ∃ b, V.ref a = .ref b ∧ (∃ xs, SqT K H b xs) ∧ P b := ⟨a, rfl, ⟨xs, SqT.of h⟩, q⟩
def tagV : V → Nat
  | .non => 0
  | .bl false => 1
  | .bl true => 2
  | .int _ => 3
  | .str _ => 4
  | .byt _ => 5
  | .flt _ => 6
  | .ref _ => 7
  | .ty _ => 8
theorem if_tagF {x y : V} {A B : Prop} (e : (tagV x == tagV y) = false) (h : B) : if decide (x = y) = true then A else B := by
  rw [if_neg (by
    intro q
    rw [of_decide_eq_true q] at e
    simp at e)]
  exact h
theorem if_tagN {x y : V} {A B : Prop} (e : (tagV x == tagV y) = false) (h : A) : if (!decide (x = y)) = true then A else B := by
  have : decide (x = y) = false := decide_eq_false fun q => by
    rw [q] at e
    simp at e
  rw [this]
  exact h
theorem if_kT {k : Knd} {n : String} {A B : Prop} (e : k.is n = true) (h : A) : if k.is n = true then A else B := by rw [if_pos e]; exact h
theorem if_kF {k : Knd} {n : String} {A B : Prop} (e : k.is n = false) (h : B) : if k.is n = true then A else B := by rw [if_neg (by rw [e]; decide)]; exact h
theorem if_nkT {k : Knd} {n : String} {A B : Prop} (e : k.is n = true) (h : B) : if (!k.is n) = true then A else B := by rw [e]; exact h
theorem if_nkF {k : Knd} {n : String} {A B : Prop} (e : k.is n = false) (h : A) : if (!k.is n) = true then A else B := by rw [e]; exact h
theorem if_notT {A B : Prop} (h : B) : if (!true) = true then A else B := h
theorem if_notF {A B : Prop} (h : A) : if (!false) = true then A else B := h
end
section
variable {J : It} {n : Nat} {G : Hp → Prop} {Y : Nat → Hp → V → Hp → Prop} {g : TG} {tb : TS} {D : Ends} {σ : L2.St} {H D0 : Hp} {R0 : Cells} {tt : TT} {te : TE} {vs : List Nat} {Q : VK} {K : PySem.W.Frag} {a b : Addr} {xs ys : List V}
theorem for_tup (I : Nat → L2.St → Cells → Hp → Prop) (hi : HI H R0 D0) (h0 : I 0 σ R0 D0) (hl : ∀ i σ R Dd, I i σ R Dd → Dd a = some (.tup xs))
    (hs : ∀ (i : Nat) x σ R Dd H, xs[i]? = some x → HI H R Dd → I i σ R Dd → g x σ H fun σ2 H2 => tb { D with nx := NX I (i + 1), ct := NX I (i + 1), bk := D.nx } σ2 H2) (hd : ∀ σ R Dd H, HI H R Dd → I xs.length σ R Dd → D.nx σ H) : ForK (Itt K a) g tb D σ H :=
  for_hi walk_tup I hi h0 (fun i σ R Dd H _ q p => SqT.of (q.dat (hl i σ R Dd p))) (fun i x σ R Dd H H' hn a b y => by
    obtain ⟨rfl, y⟩ := y
    exact hs i x σ R Dd H' y a b) hd
theorem lc_tup (I : Nat → List V → Cells → Hp → Prop) (hi : HI H R0 D0) (h0 : I 0 [] R0 D0) (hl : ∀ i acc R Dd, I i acc R Dd → Dd a = some (.tup xs))
    (hs : ∀ L i acc x R Dd H, xs[i]? = some x → HI H ((L, .lst acc) :: R) Dd → I i acc R Dd → acc.length ≤ i → g x (wipe σ vs) H fun σ2 H2 => wipe σ2 vs = wipe σ vs ∧ tt σ2 H2 fun b H3 => if b = true then te σ2 H3 (LE L I (i + 1)) else PW' L I (i + 1) H3)
    (hd : ∀ L acc R Dd H, HI H ((L, .lst acc) :: R) Dd → I xs.length acc R Dd → acc.length ≤ xs.length → Q (.ref L) H) : LcK (Itt K a) g tt te vs σ H Q :=
  lc_hi walk_tup I hi h0 (fun i acc R Dd H _ q p => SqT.of (q.dat (hl i acc R Dd p))) (fun L i acc x R Dd H H' hn a b c y => by
    obtain ⟨rfl, y⟩ := y
    exact hs L i acc x R Dd H' y a b c) hd
end
theorem HI.sublist {H D : Hp} {R R' : Cells} (h : HI H R D) (s : R'.Sublist R) : HI H R' D := ⟨(s.map _).nodup h.nd, fun p hp => h.cell p (s.subset hp), h.sub⟩
theorem HI.fr1 {H D : Hp} {R : Cells} {a : Addr} {o : HO} (h : HI H ((a, o) :: R) D) : ∃ D', HI H R D' ∧ Ex D D' ∧ D' a = some o := ⟨_, h.freeze, h.freezeX, upd_same⟩
end Wk
set_option maxRecDepth 100000
set_option maxHeartbeats 4000000
namespace Wk
open PySem PySem.Spec PyProof.Rows L2
/-- the class's name as repr shows it -/
def exHd (K : PySem.W.Frag) (C : Addr) : Str := match K.lookup C with
  | some ⟨_, _, .cls cd, _⟩ => excReprHead cd.name.toString
  | _ => ""
/-- what the written part says of the class, so that repr may show its instances -/
structure ExQ (K : PySem.W.Frag) (C : Addr) : Prop where
  o : OexC K C
  hr : PySem.W.findIn K (.ref C) "__repr__" = some (some (.builtin "BaseException.__repr__"))
  hl : (exHd K C).length ≤ 100
def exqB (n : Str) (K : PySem.W.Frag) : Bool := He.eqO (PySem.W.findIn K (.ref (He.ga K n)) "__repr__") (some (some (.builtin "BaseException.__repr__"))) && decide ((exHd K (He.ga K n)).length ≤ 100)
theorem exq_ok2 {K : PySem.W.Frag} {mg : Str → Option Value} {n : Str} {fI : Addr} (T : ExK K mg n (He.ga K n) fI) (c : exqB n K = true) : ExQ K (He.ga K n) := by
  obtain ⟨a, b⟩ := He.ba c
  exact ⟨T.T, He.eqO_ok a, of_decide_eq_true b⟩
section
variable {prog : Program} {w : World} {A : Around} {E : Value → Shared → Prop} {s : Shared} {K : PySem.W.Frag} {C e t1 : Addr} {ox : Obj} {od : Option Obj} {m : Str} {tk : Tok}
open PySem.W PySem.Calls Builtin Builtin.BaseException Builtin.Exceptions
theorem csibBy {M : Model} {last : Value → List Value → Sem Value} {self : Value} {name : PySem.Str} {id : String} {Q : Option Value → Shared → Prop} (sp : Looks M s.heap (specialOf self name) (some (.builtin id))) (hb : bindSpecial (.builtin id) self = pure (.builtin id, [self]))
    (hc : wpAny M A (last (.builtin id) [self]) (fun v => Q (some v)) E s) : wpAny M A (callSpecialIfBoundBy? last self name) Q E s := by
  simp only [callSpecialIfBoundBy?, bindSpecialIfBound?]
  refine wpAny_holding (wpAny_bind (wpAny_bind (sp.here ?_)))
  refine wpAny_bind (wpAny_askSetting (wpAny_ite ?_))
  have fin : wpAny M A (last (.builtin id) [self] >>= fun v => pure (some v)) Q E s := wpAny_bind (wpAny_mono hc (fun v s' h' => wpAny_pure h') fun _ _ h' => h')
  split
  · exact wpAny_bind (wpAny_of_eq hb (wpAny_pure (by exact fin)))
  · exact wpAny_tryCatch (wpAny_bind (wpAny_of_eq hb (wpAny_pure (by exact fin))))
/-- an exception of the class at C, its args one text -/
structure XAt (K : PySem.W.Frag) (C : Addr) (h : Heap) (e : Addr) (m : Str) (tk : Tok) : Prop where
  q : ExQ K C
  k : K.In h
  i : ∃ t1 d, h.get? e = some ({ cls := .ref C, dict := d, data := .fields #[.ref t1, .none, .none, .none, .bool false, .none] } : Obj) ∧ h.TupAt t1 [.str m tk]
theorem XAt.keeps {h h' : Heap} (x : XAt K C h e m tk) (k : ∀ b o, h.get? b = some o → h'.get? b = some o) : XAt K C h' e m tk := by
  obtain ⟨q, X, t1, d, e1, e2⟩ := x
  exact ⟨q, X.keeps k, t1, d, k _ _ e1, e2.keeps k⟩
theorem XAt.type {M : Model} {h : Heap} (x : XAt K C h e m tk) : Looks M h (typeOf (.ref e)) (.ref C) := by
  obtain ⟨q, X, t1, d, e1, e2⟩ := x
  exact (Looks.ld e1).andThen .now
theorem XAt.sub {M : Model} {h : Heap} (x : XAt K C h e m tk) : Looks M h (isInstance (.ref e) (.type "BaseException")) true := x.type.andThen (looks_subIn x.k x.q.o.exC)
theorem bexc_bind (self : Value) : bindSpecial (.builtin "BaseException.__repr__") self = pure (.builtin "BaseException.__repr__", [self]) := by
  rfl
theorem XAt.hd {h : Heap} (x : XAt K C h e m tk) : ∃ cd, PySem.W.clsIn K C = some cd ∧ exHd K C = excReprHead cd.name.toString := by
  obtain ⟨q, X, t1, d, e1, ot, n, e2, e3, e4⟩ := id x
  obtain ⟨nm, qq, N, bs, bm, sn, sub, ab, col, dd, k0, k1, k2, k3, k5, hC, hbm⟩ := q.o.cls
  refine ⟨{ name := nm, bases := bs, mro := .ref C :: bm, ns := N, qualname := qq, hasDict := true, slotNames := sn, subclasses := sub, abstract := ab, collection := col, hasDel := false }, by unfold PySem.W.clsIn; rw [hC] <;> rfl, ?_⟩
  unfold exHd
  rw [hC]
theorem xat_name {M : Model} {Q : String → Shared → Prop} {cd : ClassData} (x : XAt K C s.heap e m tk) (hc : PySem.W.clsIn K C = some cd) (hq : Q cd.name.toString s) : wpAny M A (typeNameOfWhole (.ref e)) Q E s := by
  unfold typeNameOfWhole shownTypeOf
  refine wpAny_bind (wpAny_bind (x.type.here ?_))
  have ne : (Value.ref C == Value.type "builtin_function_or_method") = false := rfl
  simp only [ne, Bool.false_eq_true, if_false]
  refine wpAny_pure ?_
  unfold typeNameWhole
  refine wpAny_bind ((looks_clsIn x.k hc).here ?_)
  exact wpAny_pure hq
theorem xat_args {M : Model} {Q : Value × List Value → Shared → Prop} (x : XAt K C s.heap e m tk) (hq : ∀ t1, Q (.ref t1, [.str m tk]) s) : wpAny M A (bexcArgs (.ref e)) Q E s := by
  obtain ⟨q, X, t1, d, e1, ot, n, e2, e3, e4⟩ := id x
  unfold bexcArgs
  refine wpAny_bind (wpAny_field e1 rfl (x := .ref t1) rfl (wpAny_bind (wpAny_seqItems e2 e4 ?_)))
  exact wpAny_pure (hq t1)
theorem xat_body (b : Nat) {Q : Fin → Shared → Prop} (x : XAt K C s.heap e m tk)
    (hq : Q (.done (.ret (.str (exHd K C ++ "(" ++ reprText m ++ ")") (s.toks + 1)))) { s with toks := s.toks + 1 + 1 }) (hsz : b + (exHd K C ++ "(" ++ reprText m ++ ")").length ≤ sizeLine) :
    wpAny (model prog w) A (Builtin.bexcReprAt b ⟨[.ref e], []⟩) Q E s := by
  obtain ⟨cd, hc, hd⟩ := x.hd
  rw [hd] at hq hsz
  have e1 : b + (Str.ofString ((cd.name.toString.cutAt '.').getLastD "") ++ Str.ofString "(" ++ reprText m ++ Str.ofString ")").length ≤ sizeLine := hsz
  have hsz2 : (Str.ofString ((cd.name.toString.cutAt '.').getLastD "") ++ Str.ofString "(" ++ reprText m ++ Str.ofString ")").length ≤ sizeLine := Nat.le_trans (Nat.le_add_left _ b) e1
  have eP : (Str.ofString "(").length = 1 := by rw [PySem.ofString_length]; rfl
  rw [strLen_append, strLen_append, strLen_append, eP] at e1
  have hsz1 : (reprText m).length ≤ sizeLine := by omega
  have hpile : b + ((Str.ofString ((cd.name.toString.cutAt '.').getLastD "")).length + 1) ≤ sizeLine := by omega
  unfold Builtin.bexcReprAt
  repeat (first | with_reducible refine xat_name x hc ?_ | (with_reducible refine xat_args x ?_; intro t1) | rw [pyReprUnder_leaf (v := .str m tk) hpile (by intro a; nofun)] | with_reducible refine wpAny_pyRepr_str ?_ | wp_step)
  exact hq
theorem xat_under {b : Nat} {Q : Str → Shared → Prop} (hu : A.units < cLine) (x : XAt K C s.heap e m tk)
    (hq : Q (exHd K C ++ "(" ++ reprText m ++ ")") { s with toks := s.toks + 1 + 1 }) (hsz : b + (exHd K C ++ "(" ++ reprText m ++ ")").length ≤ sizeLine) : wpAny (model prog w) A (pyReprUnder b (.ref e)) Q E s := by
  refine wpAny_pyReprUnder_ref (by omega) ?_
  unfold pyReprObjUnder pyReprObjBy
  refine wpAny_bind (wpAny_cRoomFor hu ?_)
  have sp : ∀ M : Model, Looks M s.heap (specialOf (.ref e) "__repr__") (some (.builtin "BaseException.__repr__")) := fun M => x.type.andThen (looks_findIn x.k x.q.hr)
  refine wpAny_bind ((sp _).here ?_)
  refine wpAny_bind (csibBy (sp _) (bexc_bind _) ?_)
  show wpAny _ _ (call (.builtin "BaseException.__repr__.under") [.ref e, rawInt b]) _ _ _
  refine wpAny_call (codeAny_call_builtin F.plain_bexc_repr_under F.entry_bexc_repr_under ?_)
  rw [F.check_bexc_repr_under]
  refine wpAny_pure ?_
  show wpAny _ _ (reprTwin "BaseException.__repr__" bexcReprAt ⟨[.ref e, rawInt b], []⟩) _ _ _
  rw [reprTwin_eq]
  refine wpAny_bind (@check_slot (model prog w) _ _ s "BaseException.__repr__" "BaseException" "__repr__" (.ref e) [] [] _ (by decide +kernel) (by decide +kernel) x.sub (F.args_bexc_repr _) ?_)
  refine xat_body b x ?_ hsz
  refine wpAny_bind (wpAny_isInstance (T := "str") (b := true) rfl isSubtype_str_str ?_)
  exact wpAny_pure ⟨_, _, rfl, hq⟩
theorem xat_repr {Q : Value → Shared → Prop} (hu : A.units + 1 < cLine) (x : XAt K C s.heap e m tk)
    (hq : Q (.str (exHd K C ++ "(" ++ reprText m ++ ")") (s.toks + 1)) { s with toks := s.toks + 1 + 1 }) (hsz : (exHd K C ++ "(" ++ reprText m ++ ")").length ≤ sizeLine) : wpAny (model prog w) A (call (.builtin "repr") [.ref e]) Q E s := by
  refine Calls.call_function_entry F.kind_repr F.plain_repr F.entry_repr (F.args_repr1 _) ?_
  unfold Builtin.«repr»
  have sp : ∀ M : Model, Looks M s.heap (specialOf (.ref e) "__repr__") (some (.builtin "BaseException.__repr__")) := fun M => x.type.andThen (looks_findIn x.k x.q.hr)
  refine wpAny_bind (m := oneArg "repr" _) (wpAny_pure ?_)
  refine wpAny_bind (wpAny_cRoomFor (show A.in1.units < cLine from hu) ?_)
  refine wpAny_bind ((sp _).here ?_)
  refine wpAny_bind (m := callSpecialIfBound? (.ref e) (Str.ofString "__repr__")) (NtL.csib (args := []) (sp _) (bexc_bind _) ?_)
  refine wpAny_call (codeAny_call_builtin (by decide +kernel) F.entry_bexc_repr (@check_slot (model prog w) _ _ s "BaseException.__repr__" "BaseException" "__repr__" (.ref e) [] [] _ (by decide +kernel) (by decide +kernel) x.sub (F.args_bexc_repr _) ?_))
  refine xat_body 0 x ?_ (by omega)
  refine wpAny_bind (wpAny_isInstance (T := "str") (b := true) rfl isSubtype_str_str ?_)
  exact wpAny_pure ⟨_, rfl, hq⟩
end
end Wk
set_option maxRecDepth 100000
set_option maxHeartbeats 4000000
namespace Wk
open PySem PySem.Spec PyProof.Rows L2 PySem.NumText
def oV : Option Int → V
  | none => .non
  | some i => .int i
theorem sIx_le' (n d : Nat) (k : Nat) : HT.sIx n d (some (k : Int)) = min k n := HT.sIx_nat n d k
/-- a leading minus -/
def neg (l : List Nat) : Bool := decide (l.head? = some 45)
instance : DecidablePred AllDigits := fun l => inferInstanceAs (Decidable (∀ c ∈ l, 48 ≤ c ∧ c ≤ 57))
end Wk
set_option maxRecDepth 100000
set_option maxHeartbeats 4000000
namespace Wk
open PySem PySem.Spec PyProof.Rows L2
def LP (P : Nat → Prop) (z : Str) : Prop := ∀ c ∈ z.cps.toList, P c
section
variable {P : Nat → Prop}
theorem LP.app {a b : Str} (h : LP P a) (k : LP P b) : LP P (a ++ b) := fun c hc => by
  rw [tl_app] at hc
  rcases List.mem_append.mp hc with h1 | h1
  · exact h c h1
  · exact k c h1
theorem LP.cut {z : Str} (h : LP P z) (lo hi : Option Int) : LP P (cutS z lo hi) := fun c hc => by
  unfold cutS at hc
  simp only at hc
  exact h c (List.mem_of_mem_drop (List.mem_of_mem_take (by simpa using hc)))
theorem LP.one {z : Str} {c : Nat} (h : LP P z) (m : c ∈ z.cps.toList) : LP P ⟨#[c]⟩ := fun d hd => by
  simp at hd
  rw [hd]
  exact h c m
def OnesP (P : Nat → Prop) (ys : List Str) : Prop := ∀ y ∈ ys, y.length = 1 ∧ LP P y
theorem OnesP.sum : ∀ {ys : List Str}, OnesP P ys → (ys.map (·.length)).sum = ys.length
  | [], _ => rfl
  | y :: ys, h => by
    have ih := OnesP.sum (ys := ys) fun z hz => h z (List.mem_cons_of_mem _ hz)
    have e := (h y (List.mem_cons_self ..)).1
    simp only [List.map_cons, List.sum_cons, List.length_cons, ih, e]
    omega
theorem OnesP.nil : OnesP P [] := fun y hy => by cases hy
theorem OnesP.snoc {ys : List Str} {z : Str} {c : Nat} (h : OnesP P ys) (hz : LP P z) (m : c ∈ z.cps.toList) : OnesP P (ys ++ [⟨#[c]⟩]) := fun y hy => by
  rcases List.mem_append.mp hy with h1 | h1
  · exact h y h1
  · rw [List.mem_singleton.mp h1]
    exact ⟨rfl, hz.one m⟩
end
inductive RListO : List V → Hp → VK → Prop
  | l {p : Addr} {xs : List V} {H : Hp} {Q : VK} : H p = some (.lst xs) → AlD (.lst xs) H Q → RListO [.ref p] H Q
  | t {p : Addr} {xs : List V} {H : Hp} {Q : VK} : H p = some (.tup xs) → AlD (.lst xs) H Q → RListO [.ref p] H Q
theorem call_listU {X : Cx} : CallR X (.type "list") RListO := by
  intro pins s σ H xs us Q I r h
  cases h with
  | l e q => exact call_list_of pins s σ H _ us Q I r ⟨_, _, rfl, .inl (SqL.of e), q⟩
  | t e q => exact call_list_of pins s σ H _ us Q I r ⟨_, _, rfl, .inr (SqT.of e), q⟩
inductive RTupO : List V → Hp → VK → Prop
  | l {p : Addr} {xs : List V} {H : Hp} {Q : VK} : H p = some (.lst xs) → AlD (.tup xs) H Q → RTupO [.ref p] H Q
section
variable {K : PySem.W.Frag} {σ : L2.St} {H D : Hp} {R : Cells} {Q : VK} {p : Addr} {xs : List V} {v : V} {to : TE} {t : TA} {r : V → List V → Hp → VK → Prop} {T : String}
theorem se_bm (h : to σ H fun x H1 => tyV K T x H1 ∧ t σ H1 fun xs H2 => r x xs H2 Q) : tBM K T r to t σ H Q := h
theorem se_bm0 (h : to σ H fun x H1 => tyV K T x H1 ∧ r x [] H1 Q) : tBM0 K T r to σ H Q := h
theorem bm_ty {A : Prop} (e : H p = some (.lst xs)) (h : A) : tyV K "list" (.ref p) H ∧ A := ⟨.inl ⟨rfl, xs, SqL.of e⟩, h⟩
theorem app_now (hi : HI H ((p, .lst xs) :: R) D) (hl : xs.length < 1000000) (k : ∀ H', HI H' ((p, .lst (xs ++ [v])) :: R) D → Q .non H') : rAppend (.ref p) [v] H Q :=
  ⟨p, xs, v, rfl, rfl, hi.get (List.mem_cons_self ..), by rw [sizeLine_eq]; omega, k _ hi.set⟩
end
theorem call_tupU {X : Cx} : CallR X (.type "tuple") RTupO := by
  intro pins s σ H xs us Q I r h
  cases h with
  | l e q => exact call_tuple_of pins s σ H _ us Q I r ⟨_, _, rfl, .inl ⟨SqL.of e, q⟩⟩
inductive RListM : List V → Hp → VK → Prop
  | l {p : Addr} {xs : List V} {H : Hp} {Q : VK} : H p = some (.lst xs) → AlM (.lst xs) H Q → RListM [.ref p] H Q
theorem call_listUM {X : Cx} : CallR X (.type "list") RListM := by
  intro pins s σ H xs us Q I r h
  cases h with
  | l e q => exact call_list_of pins s σ H _ us Q I r ⟨_, _, rfl, .inl (SqL.of e), q⟩
end Wk
set_option maxRecDepth 100000
set_option maxHeartbeats 4000000
namespace Wk
open PySem PySem.Spec PyProof.Rows L2
theorem join_len (sep : Str) : ∀ ys : List Str, (Str.join sep ys).length ≤ (ys.map (·.length)).sum + ys.length * sep.length
  | [] => Nat.zero_le _
  | [y] => by
    show y.length ≤ _
    simp
  | x :: y :: r => by
    have ih := join_len sep (y :: r)
    show (x ++ sep ++ Str.join sep (y :: r)).length ≤ _
    rw [len_app, len_app]
    simp only [List.map_cons, List.sum_cons, List.length_cons, Nat.add_mul, Nat.one_mul] at ih ⊢
    omega
theorem repr_len {z : Str} (h : Sg z) : (reprText z).length ≤ 10 * z.length + 2 := PySem.StrLaws.reprText_len z fun c hc => by
  have := h c hc
  omega
end Wk
set_option maxRecDepth 100000
set_option maxHeartbeats 4000000
namespace Wk
open PySem PySem.Spec PyProof.Rows L2
structure Sm (d : PyData) (n k : Nat) : Prop where
  s : d.showable = true
  l : d.shown.length ≤ n
  d : d.depth ≤ k
theorem Sm.mono {d : PyData} {n k n' k' : Nat} (h : Sm d n k) (a : n ≤ n') (b : k ≤ k') : Sm d n' k' := ⟨h.s, Nat.le_trans h.l a, Nat.le_trans h.d b⟩
theorem Sm.non : Sm .none 4 0 := ⟨rfl, by decide +kernel, Nat.le_refl _⟩
theorem Sm.bl (b : Bool) : Sm (.bool b) 5 0 := by cases b <;> exact ⟨rfl, by decide +kernel, Nat.le_refl _⟩
theorem Sm.int {i : Int} (h : i.natAbs < 10 ^ 30) : Sm (.int i) 31 0 := ⟨decide_eq_true (log2_small (by omega)), (tst h).1, Nat.le_refl _⟩
theorem Sm.str {z : Str} (h : Sg z) : Sm (.str z) (10 * z.length + 2) 0 := ⟨by simp [PyData.showable], repr_len h, by simp [PyData.depth]⟩
theorem sm_all {n k : Nat} : ∀ {ds : List PyData}, (∀ d ∈ ds, Sm d n k) → PyData.showableAll ds = true ∧ (((PyData.shownAll ds).map (·.length)).sum ≤ n * ds.length ∧ (PyData.shownAll ds).length = ds.length) ∧ PyData.depthAll ds ≤ k
  | [], _ => ⟨rfl, ⟨Nat.zero_le _, rfl⟩, Nat.zero_le _⟩
  | d :: ds, h => by
    obtain ⟨a, ⟨b, c⟩, e⟩ := sm_all (ds := ds) fun x hx => h x (List.mem_cons_of_mem _ hx)
    obtain ⟨a1, b1, e1⟩ := h d (List.mem_cons_self ..)
    refine ⟨?_, ⟨?_, ?_⟩, ?_⟩
    · simp only [PyData.showableAll, a1, a, Bool.and_self]
    · simp only [PyData.shownAll, List.map_cons, List.sum_cons, List.length_cons, Nat.mul_succ]
      omega
    · simp only [PyData.shownAll, List.length_cons, c]
    · simp only [PyData.depthAll]
      omega
theorem Sm.list {n k : Nat} {ds : List PyData} (h : ∀ d ∈ ds, Sm d n k) : Sm (.list ds) (n * ds.length + 2 * ds.length + 3) (k + 1) := by
  obtain ⟨a, ⟨b, c⟩, e⟩ := sm_all h
  refine ⟨by simpa only [PyData.showable] using a, ?_, by simp only [PyData.depth]; omega⟩
  have jl := PySem.listText_len_le (PyData.shownAll ds)
  rw [c] at jl
  have e4 : (PyData.list ds).shown = PySem.listText (PyData.shownAll ds) := by simp only [PyData.shown]
  rw [e4]
  omega
theorem Sm.tuple {n k : Nat} {ds : List PyData} (h : ∀ d ∈ ds, Sm d n k) : Sm (.tuple ds) (n * ds.length + 2 * ds.length + 3) (k + 1) := by
  obtain ⟨a, ⟨b, c⟩, e⟩ := sm_all h
  refine ⟨by simpa only [PyData.showable] using a, ?_, by simp only [PyData.depth]; omega⟩
  have jl := join_len (Str.ofString ", ") (PyData.shownAll ds)
  have e1 : (Str.ofString ", ").length = 2 := rfl
  have e2 : (Str.ofString "(").length = 1 := rfl
  have e3 : (Str.ofString ")").length = 1 := rfl
  have e4 : (Str.ofString ",)").length = 2 := rfl
  rw [e1, c] at jl
  match ds, jl, b, c with
  | [], jl, b, c => exact Nat.le_trans (show (PyData.shown (.tuple [])).length ≤ 3 by decide +kernel) (by omega)
  | [x], jl, b, c =>
    have b' : x.shown.length ≤ n := by simpa [PyData.shownAll] using b
    show ((Str.ofString "(") ++ x.shown ++ (Str.ofString ",)")).length ≤ _
    rw [len_app, len_app, e2, e4]
    simp only [List.length_cons, List.length_nil]
    omega
  | x :: y :: r, jl, b, c =>
    show ((Str.ofString "(") ++ Str.join (Str.ofString ", ") (PyData.shownAll (x :: y :: r)) ++ (Str.ofString ")")).length ≤ _
    rw [len_app, len_app, e2, e3]
    omega
theorem line_ok {n : Nat} (h : n ≤ 16777216) : n ≤ sizeLine := by
  rw [sizeLine_eq]
  exact h
theorem repr_sm {H : Hp} {Q : VK} {x : V} {d : PyData} {n k : Nat} (h : Rep H x d) (s : Sm d n k) (hn : n ≤ 16777216) (hk : k ≤ 60) (q : Q (.str d.shown) H) : rRepr [x] H Q := ⟨x, d, rfl, h, s.s, line_ok (Nat.le_trans s.l hn), Nat.le_trans s.d hk, q⟩
end Wk
set_option maxRecDepth 100000
set_option maxHeartbeats 4000000
namespace Wk
open PySem PySem.Spec PyProof.Rows L2
inductive KT : Key → Str → Prop
  | int (i : Int) (h : i.natAbs.log2 < 1920) : KT (.inl i) (toString i)
  | str (x : Str) : KT (.inr x) (reprText x)
mutual
/-- what repr shows of v, and how deep it goes -/
inductive Shw (K : PySem.W.Frag) (H : Hp) : V → Str → Nat → Prop
  | non : Shw K H .non "None" 0
  | bl (b : Bool) : Shw K H (.bl b) (if b then "True" else "False") 0
  | int (i : Int) (h : i.natAbs.log2 < 1920) : Shw K H (.int i) (toString i) 0
  | str (x : Str) : Shw K H (.str x) (reprText x) 0
  | exc {a d C t1 : Addr} {z : Str} (e : H a = some (exq a C (some d) t1)) (e2 : H t1 = some (.tup [.str z])) (q : ExQ K C) : Shw K H (.ref a) (exHd K C ++ "(" ++ reprText z ++ ")") 1
  | lst {a : Addr} {vs : List V} {ts : List Str} {n : Nat} (e : H a = some (.lst vs)) (l : ShwL K H vs ts n) : Shw K H (.ref a) (listText ts) (n + 1)
  | tup {a : Addr} {vs : List V} {ts : List Str} {n : Nat} (e : H a = some (.tup vs)) (l : ShwL K H vs ts n) : Shw K H (.ref a) (tupleText ts) (n + 1)
  | dict {a : Addr} {kvs : List (Key × V)} {ts : List Str} {n : Nat} (e : H a = some (.dK kvs)) (l : ShwK K H kvs ts n) : Shw K H (.ref a) (dictText ts) (n + 1)
inductive ShwL (K : PySem.W.Frag) (H : Hp) : List V → List Str → Nat → Prop
  | nil : ShwL K H [] [] 0
  | cons {v : V} {vs : List V} {t : Str} {ts : List Str} {m n : Nat} (h : Shw K H v t m) (l : ShwL K H vs ts n) : ShwL K H (v :: vs) (t :: ts) (max m n)
inductive ShwK (K : PySem.W.Frag) (H : Hp) : List (Key × V) → List Str → Nat → Prop
  | nil : ShwK K H [] [] 0
  | cons {k : Key} {v : V} {kvs : List (Key × V)} {kt t : Str} {ts : List Str} {m n : Nat} (kk : KT k kt) (h : Shw K H v t m) (l : ShwK K H kvs ts n) : ShwK K H ((k, v) :: kvs) ((kt ++ ": " ++ t) :: ts) (max m n)
end
section
variable {K : PySem.W.Frag} {H H' : Hp}
mutual
theorem Shw.mono (x : Ex H H') : ∀ {v : V} {t : Str} {n : Nat}, Shw K H v t n → Shw K H' v t n
  | _, _, _, .non => .non
  | _, _, _, .bl b => .bl b
  | _, _, _, .int i h => .int i h
  | _, _, _, .str z => .str z
  | _, _, _, .exc e e2 q => .exc (x _ _ e) (x _ _ e2) q
  | _, _, _, .lst e l => .lst (x _ _ e) (ShwL.mono x l)
  | _, _, _, .tup e l => .tup (x _ _ e) (ShwL.mono x l)
  | _, _, _, .dict e l => .dict (x _ _ e) (ShwK.mono x l)
theorem ShwL.mono (x : Ex H H') : ∀ {v : List V} {t : List Str} {n : Nat}, ShwL K H v t n → ShwL K H' v t n
  | _, _, _, .nil => .nil
  | _, _, _, .cons h l => .cons (Shw.mono x h) (ShwL.mono x l)
theorem ShwK.mono (x : Ex H H') : ∀ {v : List (Key × V)} {t : List Str} {n : Nat}, ShwK K H v t n → ShwK K H' v t n
  | _, _, _, .nil => .nil
  | _, _, _, .cons kk h l => .cons kk (Shw.mono x h) (ShwK.mono x l)
end
theorem exq_is {a C t1 : Addr} {d : Option Addr} {o : HO} (h : H a = some o) (e : H a = some (exq a C d t1)) : ∃ φ, o = .ext φ := by
  rw [h] at e
  exact ⟨_, Option.some.inj e⟩
mutual
theorem Shw.det : ∀ {v : V} {t : Str} {n : Nat}, Shw K H v t n → ∀ {t' : Str} {n' : Nat}, Shw K H v t' n' → n = n'
  | _, _, _, .non, _, _, h => by cases h; rfl
  | _, _, _, .bl b, _, _, h => by cases h; rfl
  | _, _, _, .int i _, _, _, h => by cases h; rfl
  | _, _, _, .str z, _, _, h => by cases h; rfl
  | _, _, _, .exc e e2 q, _, _, h => by
    cases h with
    | exc f f2 g => rfl
    | lst f l => obtain ⟨_, z⟩ := exq_is f e; cases z
    | tup f l => obtain ⟨_, z⟩ := exq_is f e; cases z
    | dict f l => obtain ⟨_, z⟩ := exq_is f e; cases z
  | _, _, _, .lst e l, _, _, h => by
    cases h with
    | exc f f2 g => obtain ⟨_, z⟩ := exq_is e f; cases z
    | lst f l2 => rw [e] at f; cases f; rw [ShwL.det l l2]
    | tup f l => rw [e] at f; cases f
    | dict f l => rw [e] at f; cases f
  | _, _, _, .tup e l, _, _, h => by
    cases h with
    | exc f f2 g => obtain ⟨_, z⟩ := exq_is e f; cases z
    | lst f l2 => rw [e] at f; cases f
    | tup f l2 => rw [e] at f; cases f; rw [ShwL.det l l2]
    | dict f l => rw [e] at f; cases f
  | _, _, _, .dict e l, _, _, h => by
    cases h with
    | exc f f2 g => obtain ⟨_, z⟩ := exq_is e f; cases z
    | lst f l2 => rw [e] at f; cases f
    | tup f l2 => rw [e] at f; cases f
    | dict f l2 => rw [e] at f; cases f; rw [ShwK.det l l2]
theorem ShwL.det : ∀ {v : List V} {t : List Str} {n : Nat}, ShwL K H v t n → ∀ {t' : List Str} {n' : Nat}, ShwL K H v t' n' → n = n'
  | _, _, _, .nil, _, _, h => by cases h; rfl
  | _, _, _, .cons h l, _, _, h' => by
    cases h' with
    | cons h2 l2 => rw [Shw.det h h2, ShwL.det l l2]
theorem ShwK.det : ∀ {v : List (Key × V)} {t : List Str} {n : Nat}, ShwK K H v t n → ∀ {t' : List Str} {n' : Nat}, ShwK K H v t' n' → n = n'
  | _, _, _, .nil, _, _, h => by cases h; rfl
  | _, _, _, .cons kk h l, _, _, h' => by
    cases h' with
    | cons kk2 h2 l2 => rw [Shw.det h h2, ShwK.det l l2]
end
def AtMost (K : PySem.W.Frag) (H : Hp) (n : Nat) (as : List Addr) : Prop := ∀ b ∈ as, ∃ t m, Shw K H (.ref b) t m ∧ m ≤ n
theorem AtMost.mono' {n m : Nat} {as : List Addr} (h : AtMost K H n as) (l : n ≤ m) : AtMost K H m as := fun b hb => let ⟨t, k, a, c⟩ := h b hb; ⟨t, k, a, Nat.le_trans c l⟩
theorem AtMost.app {n : Nat} {as bs : List Addr} (h : AtMost K H n as) (g : AtMost K H n bs) : AtMost K H n (as ++ bs) := fun b hb => (List.mem_append.mp hb).elim (h b) (g b)
theorem AtMost.cons {n : Nat} {a : Addr} {as : List Addr} {t : Str} (h : AtMost K H n as) (s : Shw K H (.ref a) t (n + 1)) : AtMost K H (n + 1) (a :: as) := fun b hb => by
  rcases List.mem_cons.mp hb with e | hb
  · subst e
    exact ⟨t, _, s, Nat.le_refl _⟩
  · exact (h.mono' (Nat.le_succ n)) b hb
theorem AtMost.not {n : Nat} {a : Addr} {as : List Addr} {t : Str} (h : AtMost K H n as) (s : Shw K H (.ref a) t (n + 1)) : a ∉ as := fun hm => by
  obtain ⟨t', m, s', l⟩ := h a hm
  have := Shw.det s s'
  omega
end
section
variable {X : Cx} {pins : List (Addr × Obj)} {σ : L2.St} {H : Hp} {s : Shared}
theorem xat_of {e d C t1 : Addr} {z : Str} (I : Inv X pins σ H s) (e1 : H e = some (exq e C (some d) t1)) (e2 : H t1 = some (.tup [.str z])) (q : ExQ X.K C) : ∃ tk, XAt X.K C s.heap e z tk := by
  have g1 := exq_at I.hok e1
  obtain ⟨its, rv, ⟨o, ho, hc, n, hd⟩, _⟩ := I.tuple (SqT.of e2)
  cases rv with
  | @cons _ u _ us r1 r2 =>
    cases r2
    obtain ⟨tk, rfl⟩ := r1
    exact ⟨tk, q, I.kIn, t1, some d, g1, o, n, ho, hc, hd⟩
theorem key_k {as : List Addr} {h0 : Heap} {d : Nat} {k : Key} {u : Value} {kt : Str} (hk : keyIs k u = true) (kk : KT k kt) (hz : kt.length ≤ sizeLine) : ReprK X.prog X.w as h0 d u kt := by
  cases kk with
  | int i h =>
    obtain ⟨t, rfl⟩ := Value.isInt_shape (k := i) (v := u) hk
    exact .of_is (ReprIs.int t h) _ _ _
  | str x =>
    obtain ⟨t, rfl⟩ := Value.isStrOf_shape (x := x) (v := u) hk
    exact .of_is (ReprIs.str x t hz) _ _ _
theorem entries_more {prog : Program} {w : World} {h₀ : Heap} {as as' : List Addr} {d d' : Nat} (hsub : ∀ b ∈ as, b ∈ as') (hd : d ≤ d') : ∀ {es : List DictEntry} {ps : List Str}, ReprEntriesK prog w as h₀ d es ps → ReprEntriesK prog w as' h₀ d' es ps
  | _, _, .nil => .nil
  | _, _, .cons h1 h2 l => .cons ((h1.more hsub).level_le hd) ((h2.more hsub).level_le hd) (entries_more hsub hd l)
mutual
theorem Shw.k (I : Inv X pins σ H s) (hs : HasSys X.K) : ∀ {v : V} {t : Str} {n : Nat} {u : Value}, Shw X.K H v t n → RelV v u → t.length ≤ sizeLine → ∃ as, AtMost X.K H n as ∧ ReprK X.prog X.w as s.heap n u t
  | _, _, _, _, .non, r, _ => by
    cases r
    exact ⟨[], (fun _ h => nomatch h), .of_is ReprIs.none _ _ _⟩
  | _, _, _, _, .bl b, r, _ => by
    cases r
    exact ⟨[], (fun _ h => nomatch h), .of_is (ReprIs.bool b) _ _ _⟩
  | _, _, _, _, .int i hi, r, _ => by
    obtain ⟨t, rfl⟩ := r
    exact ⟨[], (fun _ h => nomatch h), .of_is (ReprIs.int t hi) _ _ _⟩
  | _, _, _, _, .str z, r, hz => by
    obtain ⟨t, rfl⟩ := r
    exact ⟨[], (fun _ h => nomatch h), .of_is (ReprIs.str z t hz) _ _ _⟩
  | _, _, _, _, .exc e e2 q, r, hz => by
    cases r
    obtain ⟨tk, x⟩ := xat_of I e e2 q
    exact ⟨[], (fun _ h => nomatch h), fun base hb A g E s' Q hg hcl hu hk0 hQ => xat_under (by omega) (x.keeps hk0) (hQ _ _ fun _ _ e => e) hb⟩
  | _, _, _, _, .lst e l, r, hz => by
    cases r
    have sh := Shw.lst e l
    obtain ⟨its, rv, ⟨o, n, ho, hc, _, hd⟩, _⟩ := I.list (SqL.of e)
    obtain ⟨as, hb, hk⟩ := ShwL.k I hs l rv (fun t ht => Nat.le_trans (listText_mem_le ht) hz)
    refine ⟨_ :: as, hb.cons sh, ?_⟩
    cases its with
    | nil =>
      cases rv
      cases l
      have e0 : listText [] = ("[]" : Str) := listText_nil
      rw [e0]
      exact ReprK.listEmpty ho hc hd
    | cons x l' => exact ReprK.list ho hc hd (hb.not sh) (by simpa using hk.length_eq) (fun i y e => hk.item i y (by simpa using e))
  | _, _, _, _, .tup e l, r, hz => by
    cases r
    have sh := Shw.tup e l
    obtain ⟨its, rv, ⟨o, ho, hc, n, hd⟩, _⟩ := I.tuple (SqT.of e)
    obtain ⟨as, hb, hk⟩ := ShwL.k I hs l rv (fun t ht => Nat.le_trans (tupleText_mem_le ht) hz)
    exact ⟨_ :: as, hb.cons sh, ReprK.tuple ho hc hd (hb.not sh) (by simpa using hk)⟩
  | _, _, _, _, .dict e l, r, hz => by
    cases r
    have sh := Shw.dict e l
    obtain ⟨_, hsys, vs, rv, o, es, ep, ho, hx, hd, _, hp, _⟩ := I.hok _ _ e
    obtain ⟨as, hb, hk⟩ := ShwK.k I hs l rv hp (fun t ht => Nat.le_trans (dictText_mem_le ht) hz)
    exact ⟨_ :: as, hb.cons sh, ReprK.dict ho hx.1 hd hsys (hb.not sh) hk⟩
theorem ShwL.k (I : Inv X pins σ H s) (hs : HasSys X.K) : ∀ {vs : List V} {ts : List Str} {n : Nat} {us : List Value}, ShwL X.K H vs ts n → Vals vs us → (∀ t ∈ ts, t.length ≤ sizeLine) → ∃ as, AtMost X.K H n as ∧ ReprAllK X.prog X.w as s.heap n us ts
  | _, _, _, _, .nil, r, _ => by
    cases r
    exact ⟨[], (fun _ h => nomatch h), .nil⟩
  | _, _, _, _, .cons h l, r, hz => by
    cases r with
    | cons r1 r2 =>
      obtain ⟨as, h1, k1⟩ := Shw.k I hs h r1 (hz _ (List.mem_cons_self ..))
      obtain ⟨bs, h2, k2⟩ := ShwL.k I hs l r2 fun t ht => hz t (List.mem_cons_of_mem _ ht)
      exact ⟨as ++ bs, (h1.mono' (Nat.le_max_left ..)).app (h2.mono' (Nat.le_max_right ..)), .cons ((k1.more fun b hb => List.mem_append_left _ hb).level_le (Nat.le_max_left _ _)) (k2.more_le (fun b hb => List.mem_append_right _ hb) (Nat.le_max_right _ _))⟩
theorem ShwK.k (I : Inv X pins σ H s) (hs : HasSys X.K) : ∀ {kvs : List (Key × V)} {ts : List Str} {n : Nat} {us : List (Key × Value)} {es : List DictEntry}, ShwK X.K H kvs ts n → KV kvs us → Pairs (mixKind X.prog X.w) es us → (∀ t ∈ ts, t.length ≤ sizeLine) →
    ∃ as, AtMost X.K H n as ∧ ReprEntriesK X.prog X.w as s.heap n es ts
  | _, _, _, _, _, .nil, r, p, _ => by
    cases r
    cases p
    exact ⟨[], (fun _ h => nomatch h), .nil⟩
  | _, _, _, _, _, .cons (t := t) (kt := kt) kk h l, r, p, hz => by
    cases r with
    | cons r1 r2 =>
      cases p with
      | cons p1 p2 p3 =>
        obtain ⟨e1, e2⟩ := r1
        have hl := hz _ (List.mem_cons_self ..)
        rw [len_app, len_app] at hl
        obtain ⟨bs, h2, k2⟩ := ShwK.k I hs l r2 p3 fun t ht => hz t (List.mem_cons_of_mem _ ht)
        rw [← e1] at p1
        rw [← p2] at e2
        obtain ⟨as, h1, k1⟩ := Shw.k I hs h e2 (by omega)
        refine ⟨as ++ bs, (h1.mono' (Nat.le_max_left ..)).app (h2.mono' (Nat.le_max_right ..)), .cons (key_k (show keyIs _ _ = true from p1) kk (by omega)) ((k1.more fun b hb => List.mem_append_left _ hb).level_le (Nat.le_max_left _ _)) ?_⟩
        exact entries_more (fun b hb => List.mem_append_right _ hb) (Nat.le_max_right _ _) k2
end
end
/-- repr(x), exceptions within -/
def rShw (K : PySem.W.Frag) : List V → Hp → VK → Prop := fun xs H Q => ∃ x t n, xs = [x] ∧ Shw K H x t n ∧ t.length ≤ sizeLine ∧ n ≤ 60 ∧ Q (.str t) H
theorem call_shw {X : Cx} {k : Nat} (hgu : X.A.guards = some []) (hr : Room k X.A) (hs : HasSys X.K) : CallR X (.builtin "repr") (rShw X.K) := by
  intro pins s σ H xs us Q I r h
  obtain ⟨x, t, n, rfl, hx, h2, h3, q⟩ := h
  obtain ⟨u, rfl, ru⟩ := vals1 r
  have hu := hr.units
  have fin : ∀ h' t' tk, (∀ b o, s.heap.get? b = some o → h'.get? b = some o) → EP X pins σ Q (.str t t') { s with heap := h', toks := tk } := fun h' t' tk k => ⟨.str t, H, I.kept k, ⟨_, rfl⟩, q⟩
  cases hx with
  | non => cases ru; exact P.repr_of_none (fin s.heap _ _ fun _ _ e => e)
  | bl b => cases ru; exact P.repr_of_bool (fin s.heap _ _ fun _ _ e => e)
  | int i hi =>
    obtain ⟨t', rfl⟩ := ru
    exact P.repr_of_int hi (fin s.heap _ _ fun _ _ e => e)
  | str z =>
    obtain ⟨t', rfl⟩ := ru
    exact P.repr_of_str (fin s.heap _ _ fun _ _ e => e) h2
  | exc e e2 qx =>
    cases ru
    obtain ⟨tk, x⟩ := xat_of I e e2 qx
    exact xat_repr (by omega) x (fin s.heap _ _ fun _ _ e => e) h2
  | lst e l =>
    cases ru
    have sh := Shw.lst e l
    obtain ⟨its, rv, ⟨o, n, ho, hc, _, hd⟩, _⟩ := I.list (SqL.of e)
    obtain ⟨as, hb, hk⟩ := ShwL.k I hs l rv (fun t ht => Nat.le_trans (listText_mem_le ht) h2)
    refine call_repr_slot (by omega) ⟨o, ho, hc⟩ PySem.F.slot_list_repr.toG ?_
    cases its with
    | nil =>
      cases rv
      cases l
      have e0 : listText [] = ("[]" : Str) := listText_nil
      rw [e0] at fin
      exact call_list_repr_empty ⟨o, ho, hc⟩ ho hd ⟨_, _, rfl, fin s.heap _ _ fun _ _ e => e⟩
    | cons x l' => exact call_list_reprK ho hc hd (hb.not sh) (by simpa using hk.length_eq) (fun i y e => hk.item i y (by simpa using e)) hgu (fun b _ => Clear.nil b) (by show X.A.units + 1 + _ < cLine; omega) (fun _ _ e => e) (fun h' u tk hk' => ⟨_, _, rfl, fin h' u tk hk'⟩) h2
  | tup e l =>
    cases ru
    have sh := Shw.tup e l
    obtain ⟨its, rv, ⟨o, ho, hc, n, hd⟩, _⟩ := I.tuple (SqT.of e)
    obtain ⟨as, hb, hk⟩ := ShwL.k I hs l rv (fun t ht => Nat.le_trans (tupleText_mem_le ht) h2)
    refine call_repr_slot (by omega) ⟨o, ho, hc⟩ PySem.F.slot_tuple_repr ?_
    exact call_tuple_reprK ho hc hd (hb.not sh) (by simpa using hk) hgu (fun b _ => Clear.nil b) (by show X.A.units + 1 + _ < cLine; omega) (fun _ _ e => e) (fun h' u tk hk' => ⟨_, _, rfl, fin h' u tk hk'⟩) h2
  | dict e l =>
    cases ru
    have sh := Shw.dict e l
    obtain ⟨_, hsys, vs, rv, o, es, ep, ho, hx, hd, _, hp, _⟩ := I.hok _ _ e
    obtain ⟨as, hb, hk⟩ := ShwK.k I hs l rv hp (fun t ht => Nat.le_trans (dictText_mem_le ht) h2)
    refine call_repr_slot (by omega) ⟨o, ho, hx.1⟩ PySem.F.slot_dict_repr ?_
    exact call_dict_reprK ho hx.1 hd hsys (hb.not sh) hk hgu (fun b _ => Clear.nil b) (by show X.A.units + 1 + _ < cLine; omega) (fun _ _ e => e) (fun h' u tk hk' => ⟨_, _, rfl, fin h' u tk hk'⟩) h2
/-- either reading of repr -/
inductive RShw (K : PySem.W.Frag) : List V → Hp → VK → Prop
  | s {x : V} {t : Str} {n : Nat} {H : Hp} {Q : VK} : Shw K H x t n → t.length ≤ 10000000 → n ≤ 60 → Q (.str t) H → RShw K [x] H Q
  | b {xs : List V} {H : Hp} {Q : VK} : rRepr xs H Q → RShw K xs H Q
theorem call_reprS {X : Cx} {k : Nat} (hgu : X.A.guards = some []) (hr : Room k X.A) (hs : HasSys X.K) : CallR X (.builtin "repr") (RShw X.K) := by
  intro pins s σ H xs us Q I r h
  cases h with
  | s h1 h2 h3 q => exact call_shw hgu hr hs pins s σ H _ us Q I r ⟨_, _, _, rfl, h1, line_ok (Nat.le_trans h2 (by decide)), h3, q⟩
  | b q => exact call_repr hgu hr hs pins s σ H _ us Q I r q
end Wk
set_option maxRecDepth 100000
set_option maxHeartbeats 4000000
namespace Wk
open PySem PySem.Spec PyProof.Rows L2
/-- a list's cell, a dict's cell -/
def LD (o : HO) : Prop := (∃ xs, o = .lst xs) ∨ ∃ kvs, o = .dK kvs
/-- a drawn thing, or a list or a dict that changes -/
def Mt (K : PySem.W.Frag) (R : Cells) (D : Hp) (v : V) : Prop := Th K D v ∨ ∃ p o, v = .ref p ∧ ((p, o) : Addr × HO) ∈ R ∧ LD o
section
variable {K : PySem.W.Frag} {R R' : Cells} {D D' H : Hp} {v : V} {c : Addr × HO}
theorem Th.m (h : Th K D v) : Mt K R D v := .inl h
theorem Mt.at {p : Addr} {xs : List V} (h : ((p, HO.lst xs) : Addr × HO) ∈ R) : Mt K R D (.ref p) := .inr ⟨p, _, rfl, h, .inl ⟨xs, rfl⟩⟩
theorem Mt.mono (h : Mt K R D v) (x : Ex D D') : Mt K R D' v := by
  rcases h with h | h
  · exact .inl (h.mono x)
  · exact .inr h
theorem Mt.cell (h : Mt K R D v) : Mt K (c :: R) D v := by
  rcases h with h | ⟨p, o, e, m, l⟩
  · exact .inl h
  · exact .inr ⟨p, o, e, List.mem_cons_of_mem _ m, l⟩
theorem Mt.sub (h : Mt K R D v) (s : ∀ q ∈ R, q ∈ R') : Mt K R' D v := by
  rcases h with h | ⟨p, o, e, m, l⟩
  · exact .inl h
  · exact .inr ⟨p, o, e, s _ m, l⟩
theorem Mt.kn (h : Mt K R D v) (hI : HI H R D) : (∃ k, Kn K H v k) ∧ ∀ z, v = .str z → TxtOk z := by
  rcases h with h | ⟨p, o, rfl, m, l⟩
  · obtain ⟨⟨k, kn⟩, q⟩ := h
    exact ⟨⟨k, hI.kn kn⟩, q⟩
  · rcases l with ⟨xs, rfl⟩ | ⟨kvs, rfl⟩
    · exact ⟨⟨.lst, .lst (hI.get m)⟩, fun z e => by cases e⟩
    · exact ⟨⟨.dict, .dict (hI.get m)⟩, fun z e => by cases e⟩
end
theorem rni_lst {x : V} {p : Addr} {xs : List V} {H : Hp} {Q : VK} (e : H p = some (.lst xs)) (f : flatV x = true) (g : xs.all flatV = true) (q : Q (.bl (!inV x xs)) H) : RIn true x (.ref p) H Q := .lst e f g q
/-- a refusal gets out: of the class at C, the very thing v in it -/
def Outs (E : XK) (C : Addr) (v : V) (R : Cells) (D : Hp) : Prop := ∀ d H' D', HI H' R D' → Ex D D' → D' d = some (.xd [(("found" : Str), v)]) → E (.ref C) (some d) H'
theorem Outs.mono {E : XK} {C : Addr} {v : V} {R : Cells} {D D1 : Hp} (o : Outs E C v R D) (x : Ex D D1) : Outs E C v R D1 := fun d H' D' hi ex hd => o d H' D' hi (x.trans ex) hd
theorem Outs.cell {E : XK} {C : Addr} {v : V} {R : Cells} {D : Hp} {x : Addr × HO} (o : Outs E C v R D) : Outs E C v (x :: R) D := fun d H' D' hi ex hd => o d H' D' hi.drop ex hd
end Wk
set_option maxRecDepth 100000
set_option maxHeartbeats 4000000
namespace Wk
open PySem PySem.Spec PyProof.Rows L2
abbrev LCs := List (Addr × List V)
def lcs (LC : LCs) : Cells := LC.map fun c => (c.1, HO.lst c.2)
/-- a list's items, at most m -/
def Lg (D : Hp) (m : Nat) (xs : List V) : Prop := ∃ ds, RepL D xs ds ∧ (∀ d ∈ ds, Sm d 100 3) ∧ ds.length ≤ m
theorem Lg.mono {D D' : Hp} {m m' : Nat} {xs : List V} (h : Lg D m xs) (x : Ex D D') (l : m ≤ m') : Lg D' m' xs := by
  obtain ⟨ds, a, b, c⟩ := h
  exact ⟨ds, a.mono x, b, Nat.le_trans c l⟩
theorem Lg.snoc {D : Hp} {m : Nat} {xs : List V} {v : V} {d : PyData} (h : Lg D m xs) (r : Rep D v d) (s : Sm d 100 3) : Lg D (m + 1) (xs ++ [v]) := by
  obtain ⟨ds, a, b, c⟩ := h
  refine ⟨ds ++ [d], a.snoc r, fun e he => ?_, by rw [List.length_append]; exact Nat.succ_le_succ c⟩
  rcases List.mem_append.mp he with q | q
  · exact b e q
  · rw [List.mem_singleton.mp q]
    exact s
theorem Lg.len {D : Hp} {m : Nat} {xs : List V} (h : Lg D m xs) : xs.length ≤ m := by
  obtain ⟨ds, a, b, c⟩ := h
  rw [a.length]
  exact c
/-- a thing: data, or one of the lists -/
def Vg (K : PySem.W.Frag) (LC : LCs) (D : Hp) (v : V) : Prop := (∃ k d, Kn K D v k ∧ k.is "list" = false ∧ Rep D v d ∧ Sm d 100 3 ∧ ∀ z, v = .str z → TxtOk z) ∨ ∃ c ∈ LC, v = .ref c.1
section
variable {K : PySem.W.Frag} {LC : LCs} {D D' H : Hp} {R : Cells} {v : V}
theorem Vg.mono (h : Vg K LC D v) (x : Ex D D') : Vg K LC D' v := by
  rcases h with ⟨k, d, a, b, c, e, f⟩ | h
  · exact .inl ⟨k, d, a.mono x, b, c.mono x, e, f⟩
  · exact .inr h
theorem Vg.more {LN : LCs} (h : Vg K LC D v) : Vg K (LN ++ LC) D v := by
  rcases h with h | ⟨c, m, e⟩
  · exact .inl h
  · exact .inr ⟨c, List.mem_append_right _ m, e⟩
theorem Vg.m (h : Vg K LC D v) (s : ∀ q ∈ lcs LC, q ∈ R) : Mt K R D v := by
  rcases h with ⟨k, d, a, b, c, e, f⟩ | ⟨c, m, rfl⟩
  · exact .inl ⟨⟨k, a⟩, f⟩
  · exact .inr ⟨c.1, .lst c.2, rfl, s _ (List.mem_map.mpr ⟨c, m, rfl⟩), .inl ⟨_, rfl⟩⟩
theorem Vg.non : Vg K LC D .non := .inl ⟨.non, _, .non, rfl, .non, Sm.non.mono (by decide) (by decide), fun z e => by cases e⟩
theorem Vg.bl (b : Bool) : Vg K LC D (.bl b) := .inl ⟨.bl, _, .bl b, rfl, .bl b, (Sm.bl b).mono (by decide) (by decide), fun z e => by cases e⟩
theorem Vg.int {i : Int} (h : i.natAbs < 10 ^ 30) : Vg K LC D (.int i) := .inl ⟨.int, _, .int i, rfl, .int i, (Sm.int h).mono (by decide) (by decide), fun z e => by cases e⟩
theorem Vg.str {z : Str} (h : Sg z) (l : z.length ≤ 9) : Vg K LC D (.str z) := .inl ⟨.str, _, .str z, rfl, .str z, (Sm.str h).mono (by omega) (by decide), fun y e => by cases e; exact ⟨by omega, h⟩⟩
theorem Vg.tup {p : Addr} {xs : List V} {d : PyData} (e : D p = some (.tup xs)) (r : Rep D (.ref p) d) (s : Sm d 100 3) : Vg K LC D (.ref p) := .inl ⟨.tup, d, .tup e, rfl, r, s, fun z e => by cases e⟩
theorem Vg.dict {p : Addr} {xs : List (Key × V)} {d : PyData} (e : D p = some (.dK xs)) (r : Rep D (.ref p) d) (s : Sm d 100 3) : Vg K LC D (.ref p) := .inl ⟨.dict, d, .dict e, rfl, r, s, fun z e => by cases e⟩
/-- the thing as repr sees it -/
theorem Vg.rep (h : Vg K LC D v) {m : Nat} (hm : m ≤ 100) (hI : HI H R D) (s : ∀ q ∈ lcs LC, q ∈ R) (g : ∀ c ∈ LC, Lg D m c.2) : ∃ d, Rep H v d ∧ Sm d 11000 4 := by
  rcases h with ⟨k, d, a, b, c, e, f⟩ | ⟨c, mc, rfl⟩
  · exact ⟨d, hI.rep c, e.mono (by decide) (by decide)⟩
  · obtain ⟨ds, r, sm, l⟩ := g c mc
    refine ⟨.list ds, .lst (hI.get (s _ (List.mem_map.mpr ⟨c, mc, rfl⟩))) (r.mono hI.sub), (Sm.list sm).mono ?_ (Nat.le_refl _)⟩
    omega
end
def putC (p : Addr) (o : HO) (R : Cells) : Cells := R.map fun q => if q.1 = p then (p, o) else q
def putL (p : Addr) (xs : List V) (LC : LCs) : LCs := LC.map fun c => if c.1 = p then (p, xs) else c
theorem HI.put {H D : Hp} {R : Cells} {p : Addr} {o u : HO} (h : HI H R D) (m : (p, o) ∈ R) : HI (upd H p u) (putC p u R) D := by
  have keys : (putC p u R).map (·.1) = R.map (·.1) := by
    unfold putC
    rw [List.map_map]
    refine List.map_congr_left fun q _ => ?_
    show (if q.1 = p then (p, u) else q).1 = q.1
    by_cases e : q.1 = p
    · rw [if_pos e, e]
    · rw [if_neg e]
  have dp := (h.cell _ m).2
  refine ⟨by rw [keys]; exact h.nd, fun q hq => ?_, fun b w e => ?_⟩
  · obtain ⟨q0, m0, rfl⟩ := List.mem_map.mp hq
    by_cases e : q0.1 = p
    · rw [if_pos e]
      exact ⟨upd_same, dp⟩
    · rw [if_neg e, upd_ne e]
      exact h.cell q0 m0
  · have ne : b ≠ p := fun e2 => by
      rw [e2, dp] at e
      cases e
    rw [upd_ne ne]
    exact h.sub b w e
theorem Vg.put {K : PySem.W.Frag} {D : Hp} {LC : LCs} {p : Addr} {xs : List V} {v : V} (h : Vg K LC D v) : Vg K (putL p xs LC) D v := by
  rcases h with h | ⟨c, m, rfl⟩
  · exact .inl h
  · refine .inr ⟨if c.1 = p then (p, xs) else c, List.mem_map.mpr ⟨c, m, rfl⟩, ?_⟩
    by_cases e : c.1 = p
    · rw [if_pos e, e]
    · rw [if_neg e]
end Wk
set_option maxRecDepth 100000
set_option maxHeartbeats 4000000
namespace Wk
open PySem PySem.Spec PyProof.Rows L2
theorem hu1 {k : Nat} {A : Around} (r : Room k A) : A.units + 1 < cLine := by have := r.units; omega
def DgP (x : V) (H : Hp) (N : Addr → Prop) : Prop := ∃ a, x = .ref a ∧ IsD H a ∧ N a
def DqP (a : Addr) (y : V) (H : Hp) (N : Option V → Prop) : Prop := ∃ o, DGet H a y o ∧ N o
def DvP (x y : V) (H : Hp) (N : V → Prop) : Prop := ∃ a v, x = .ref a ∧ DGet H a y (some v) ∧ N v
def DiP (x y : V) (H : Hp) (N : Option V → Prop) : Prop := ∃ a o, x = .ref a ∧ DGet H a y o ∧ N o
def DpP (x y v : V) (H : Hp) (N : Hp → Prop) : Prop := ∃ a H', x = .ref a ∧ DPut H a y v H' ∧ N H'
def DoP (a : Addr) (y : V) (H : Hp) (Q : VK) : Prop := ∃ kvs k v, H a = some (.dK kvs) ∧ y = kV k ∧ valV kvs k = some v ∧ Q v (upd H a (.dK (dropK kvs k)))
section
variable {K : PySem.W.Frag} {σ : L2.St} {H D : Hp} {R : Cells} {Q : VK} {td ty tx tv : TE} {Ds : Ends} {a : Addr} {kvs : List (Key × V)} {i : Int} {z : Str} {v : V}
theorem se_dget2 (h : td σ H fun x H1 => DgP x H1 fun a => ty σ H1 fun y H2 => tx σ H2 fun z H3 => DqP a y H3 fun o => Q (o.getD z) H3) : tDGet2 td ty tx σ H Q := h
theorem se_dget1 (h : td σ H fun x H1 => DgP x H1 fun a => ty σ H1 fun y H2 => DqP a y H2 fun o => Q (o.getD .non) H2) : tDGet1 td ty σ H Q := h
theorem dg_mk {N : Addr → Prop} (e : H a = some (.dK kvs)) (h : N a) : DgP (.ref a) H N := ⟨a, rfl, .inl ⟨kvs, .inl e⟩, h⟩
theorem dq_i {N : Option V → Prop} (e : H a = some (.dK kvs)) (h : N (valV kvs (.inl i))) : DqP a (.int i) H N := ⟨_, DGet.k (k := Sum.inl i) e, h⟩
theorem dq_s {N : Option V → Prop} (e : H a = some (.dK kvs)) (h : N (valV kvs (.inr z))) : DqP a (.str z) H N := ⟨_, DGet.k (k := Sum.inr z) e, h⟩
theorem se_dsub (h : td σ H fun x H1 => ty σ H1 fun y H2 => DvP x y H2 fun v => Q v H2) : tDGet td ty σ H Q := h
theorem dv_i {N : V → Prop} (e : H a = some (.dK kvs)) (l : valV kvs (.inl i) = some v) (h : N v) : DvP (.ref a) (.int i) H N := ⟨a, v, rfl, by rw [← l]; exact DGet.k (k := Sum.inl i) e, h⟩
theorem se_din (h : ty σ H fun y H1 => td σ H1 fun x H2 => DiP x y H2 fun o => Q (.bl o.isSome) H2) : tDIn ty td σ H Q := h
theorem se_dni (h : ty σ H fun y H1 => td σ H1 fun x H2 => DiP x y H2 fun o => Q (.bl (!o.isSome)) H2) : tDNotIn ty td σ H Q := h
theorem di_i {N : Option V → Prop} (e : H a = some (.dK kvs)) (h : N (valV kvs (.inl i))) : DiP (.ref a) (.int i) H N := ⟨a, _, rfl, DGet.k (k := Sum.inl i) e, h⟩
theorem di_s {N : Option V → Prop} (e : H a = some (.dK kvs)) (h : N (valV kvs (.inr z))) : DiP (.ref a) (.str z) H N := ⟨a, _, rfl, DGet.k (k := Sum.inr z) e, h⟩
theorem st_dput (h : tv σ H fun v H1 => td σ H1 fun x H2 => ty σ H2 fun y H3 => DpP x y v H3 fun H4 => Ds.nx σ H4) : sDPut td ty tv Ds σ H := h
theorem dp_i {N : Hp → Prop} (hi : HI H ((a, .dK kvs) :: R) D) (hl : kvs.length < 1000000) (k : ∀ H', HI H' ((a, .dK (putK kvs (.inl i) v)) :: R) D → N H') : DpP (.ref a) (.int i) v H N :=
  ⟨a, _, rfl, DPut.k (k := Sum.inl i) (hi.get (List.mem_cons_self ..)) (by rw [sizeLine_eq]; omega), k _ hi.set⟩
theorem dp_s {N : Hp → Prop} (hi : HI H ((a, .dK kvs) :: R) D) (hl : kvs.length < 1000000) (k : ∀ H', HI H' ((a, .dK (putK kvs (.inr z) v)) :: R) D → N H') : DpP (.ref a) (.str z) v H N :=
  ⟨a, _, rfl, DPut.k (k := Sum.inr z) (hi.get (List.mem_cons_self ..)) (by rw [sizeLine_eq]; omega), k _ hi.set⟩
theorem se_dpop1 (h : td σ H fun x H1 => DgP x H1 fun a => ty σ H1 fun y H2 => DoP a y H2 Q) : tDPop1 td ty σ H Q := h
end
def tDNewM : TE := tDNewK
theorem pe_dnewM {X : Cx} {pos : Pos} : PE X (.Dict [] [] pos) tDNewM := pe_dnewK
theorem se_dnewM {σ : L2.St} {H : Hp} {Q : VK} (h : AlM (.dK []) H Q) : tDNewM σ H Q := h
def iSeq (K : PySem.W.Frag) (tl : TE) : TI := fun σ H R => tl σ H fun x H1 => (∃ a, x = .ref a ∧ (∃ xs, SqL K H1 a xs) ∧ R (Itl K a) H1) ∨ ∃ a, x = .ref a ∧ (∃ xs, SqT K H1 a xs) ∧ R (Itt K a) H1
theorem pi_seq {X : Cx} {tg l : Expr} {tl : TE} (hl : PE X l tl) : PI X tg l (iSeq X.K tl) := by
  refine ⟨fun pins s σ H R I h => ?_⟩
  refine thn (hl.run pins s σ H _ I h) fun v s1 ⟨x, H1, I1, r1, q1⟩ => ?_
  rcases q1 with ⟨a, e, ⟨xs, hq⟩, q⟩ | ⟨a, e, ⟨xs, hq⟩, q⟩
  · subst e
    cases r1
    obtain ⟨its, rv, p, hz⟩ := I1.list hq
    refine wpAny_pyIter_list p.isList ?_
    refine ⟨s1.heap.objs.size, [s1.heap.objs.size], _, _, H1, rfl, I1.kept (t' := s1.toks) fun b o e => Heap.get?_push_of_some _ e, turn_list a _, ⟨_, Heap.get?_push_size _ rfl, rfl, rfl⟩, fun b hb => ?_, q⟩
    have e : b = s1.heap.objs.size := by simpa using hb
    subst e
    exact I1.fpOk (Nat.le_refl _) (I1.hok.fresh (Nat.le_refl _))
  · subst e
    cases r1
    obtain ⟨its, rv, p, hz⟩ := I1.tuple hq
    refine wpAny_pyIter_tuple (show s1.heap.IsTuple a its.toArray from p) ?_
    refine ⟨s1.heap.objs.size, [s1.heap.objs.size], _, _, H1, rfl, I1.kept (t' := s1.toks) fun b o e => Heap.get?_push_of_some _ e, turn_tuple a _, ⟨_, Heap.get?_push_size _ rfl, rfl, rfl⟩, fun b hb => ?_, q⟩
    have e : b = s1.heap.objs.size := by simpa using hb
    subst e
    exact I1.fpOk (Nat.le_refl _) (I1.hok.fresh (Nat.le_refl _))
section
variable {K : PySem.W.Frag} {σ : L2.St} {H : Hp} {te : TE} {R : It → Hp → Prop} {a : Addr} {xs : List V}
theorem it_seq (h : te σ H fun x H1 => (∃ a, x = .ref a ∧ (∃ xs, SqL K H1 a xs) ∧ R (Itl K a) H1) ∨ ∃ a, x = .ref a ∧ (∃ xs, SqT K H1 a xs) ∧ R (Itt K a) H1) : iSeq K te σ H R := h
theorem seq_l {P P' : Addr → Prop} (h : H a = some (.lst xs)) (q : P a) : (∃ b, V.ref a = .ref b ∧ (∃ xs, SqL K H b xs) ∧ P b) ∨ ∃ b, V.ref a = .ref b ∧ (∃ xs, SqT K H b xs) ∧ P' b := .inl ⟨a, rfl, ⟨xs, SqL.of h⟩, q⟩
theorem seq_t {P P' : Addr → Prop} (h : H a = some (.tup xs)) (q : P' a) : (∃ b, V.ref a = .ref b ∧ (∃ xs, SqL K H b xs) ∧ P b) ∨ ∃ b, V.ref a = .ref b ∧ (∃ xs, SqT K H b xs) ∧ P' b := .inr ⟨a, rfl, ⟨xs, SqT.of h⟩, q⟩
end
inductive RSortI : List V → Hp → VK → Prop
  | l {p : Addr} {ns : List Int} {H : Hp} {Q : VK} : H p = some (.lst (ns.map V.int)) → ns.length < 64 → (∀ ns' : List Int, ns'.Perm ns → ns'.Pairwise (· ≤ ·) → AlD (.lst (ns'.map V.int)) H Q) → RSortI [.ref p] H Q
  | d {p : Addr} {kvs : List (Key × V)} {ks : List Int} {H : Hp} {Q : VK} : H p = some (.dK kvs) → kvs.map (·.1) = ks.map Sum.inl → ks.length < 64 → (∀ ys : List Int, ys.Perm ks → ys.Pairwise (· ≤ ·) → AlD (.lst (ys.map V.int)) H Q) → RSortI [.ref p] H Q
theorem call_sortI {X : Cx} (hc : X.calm = true) : CallR X (.builtin "sorted") RSortI := by
  intro pins s σ H xs us Q I r h
  cases h with
  | l e l q => exact cr_sorted pins s σ H _ us Q I r ⟨_, _, rfl, SqL.of e, l, fun ns' p h1 h2 h3 => q ns' h1 h2 p h3⟩
  | d e m l q => exact call_sortedDI hc pins s σ H _ us Q I r ⟨_, _, _, rfl, .inl e, m, l, fun ys p h1 h2 h3 => q ys h1 h2 p h3⟩
inductive Sq3 (R : Cells) (D : Hp) (p : Addr) (xs : List V) : Prop
  | l (e : D p = some (.lst xs))
  | t (e : D p = some (.tup xs))
  | c (m : ((p, HO.lst xs) : Addr × HO) ∈ R)
theorem Sq3.mono {R : Cells} {D D' : Hp} {p : Addr} {xs : List V} (s : Sq3 R D p xs) (x : Ex D D') : Sq3 R D' p xs := by
  cases s with
  | l e => exact .l (x _ _ e)
  | t e => exact .t (x _ _ e)
  | c m => exact .c m
theorem Sq3.sub {R R' : Cells} {D : Hp} {p : Addr} {xs : List V} (s : Sq3 R D p xs) (h : ∀ q ∈ R, q ∈ R') : Sq3 R' D p xs := by
  cases s with
  | l e => exact .l e
  | t e => exact .t e
  | c m => exact .c (h _ m)
theorem Sq3.len {H D : Hp} {R : Cells} {p : Addr} {xs : List V} {Q : VK} (hi : HI H R D) (s : Sq3 R D p xs) (q : Q (.int xs.length) H) : RLen [.ref p] H Q := by
  cases s with
  | l e => exact .lst (hi.dat e) q
  | t e => exact .tup (hi.dat e) q
  | c m => exact .lst (hi.get m) q
theorem Sq3.list {H D : Hp} {R : Cells} {p : Addr} {xs : List V} {Q : VK} (hi : HI H R D) (s : Sq3 R D p xs) (q : AlD (.lst xs) H Q) : RListO [.ref p] H Q := by
  cases s with
  | l e => exact .l (hi.dat e) q
  | t e => exact .t (hi.dat e) q
  | c m => exact .l (hi.get m) q
theorem Sq3.isi {K : PySem.W.Frag} {H D : Hp} {R : Cells} {p T : Addr} {xs : List V} {Q : VK} (hi : HI H R D) (s : Sq3 R D p xs) (e : H T = some (.tup [.ty "list", .ty "tuple"])) (q : Q (.bl true) H) : RIsiT K [.ref p, .ref T] H Q := by
  have hs : ∀ n ∈ (["list", "tuple"] : List String), n ∈ six := by decide +kernel
  cases s with
  | l e1 => exact .ty (k := .lst) (ns := ["list", "tuple"]) (.lst (hi.dat e1)) e hs q
  | t e1 => exact .ty (k := .tup) (ns := ["list", "tuple"]) (.tup (hi.dat e1)) e hs q
  | c m => exact .ty (k := .lst) (ns := ["list", "tuple"]) (.lst (hi.get m)) e hs q
section
variable {K : PySem.W.Frag} {g : TG} {tb : TS} {D : Ends} {σ : L2.St} {H D0 : Hp} {R0 : Cells} {tt : TT} {te : TE} {vs : List Nat} {Q : VK} {a : Addr} {xs : List V}
theorem lc_seq (s : Sq3 R0 D0 a xs) (I : Nat → List V → Cells → Hp → Prop) (hi : HI H R0 D0) (h0 : I 0 [] R0 D0) (hl : ∀ i acc R Dd, I i acc R Dd → (∀ q ∈ R0, q ∈ R) ∧ Ex D0 Dd)
    (hs : ∀ L i acc x R Dd H, xs[i]? = some x → HI H ((L, .lst acc) :: R) Dd → I i acc R Dd → acc.length ≤ i → g x (wipe σ vs) H fun σ2 H2 => wipe σ2 vs = wipe σ vs ∧ tt σ2 H2 fun b H3 => if b = true then te σ2 H3 (LE L I (i + 1)) else PW' L I (i + 1) H3)
    (hd : ∀ L acc R Dd H, HI H ((L, .lst acc) :: R) Dd → I xs.length acc R Dd → acc.length ≤ xs.length → Q (.ref L) H) :
    (∃ b, V.ref a = .ref b ∧ (∃ xs, SqL K H b xs) ∧ LcK (Itl K b) g tt te vs σ H Q) ∨ ∃ b, V.ref a = .ref b ∧ (∃ xs, SqT K H b xs) ∧ LcK (Itt K b) g tt te vs σ H Q := by
  cases s with
  | l e => exact .inl ⟨a, rfl, ⟨xs, SqL.of (hi.dat e)⟩, lc_lst I hi h0 (fun i acc R Dd p => (hl i acc R Dd p).2 _ _ e) hs hd⟩
  | t e => exact .inr ⟨a, rfl, ⟨xs, SqT.of (hi.dat e)⟩, lc_tup I hi h0 (fun i acc R Dd p => (hl i acc R Dd p).2 _ _ e) hs hd⟩
  | c m => exact .inl ⟨a, rfl, ⟨xs, SqL.of (hi.get m)⟩, lc_hi walk_list I hi h0 (fun i acc R Dd H _ q p => SqL.of (q.get ((hl i acc R Dd p).1 _ m))) (fun L i acc x R Dd H H' hn a b c y => by
      obtain ⟨rfl, y⟩ := y
      exact hs L i acc x R Dd H' y a b c) hd⟩
theorem for_seq (s : Sq3 R0 D0 a xs) (I : Nat → L2.St → Cells → Hp → Prop) (hi : HI H R0 D0) (h0 : I 0 σ R0 D0) (hl : ∀ i σ R Dd, I i σ R Dd → (∀ q ∈ R0, q ∈ R) ∧ Ex D0 Dd)
    (hs : ∀ (i : Nat) x σ R Dd H, xs[i]? = some x → HI H R Dd → I i σ R Dd → g x σ H fun σ2 H2 => tb { D with nx := NX I (i + 1), ct := NX I (i + 1), bk := D.nx } σ2 H2) (hd : ∀ σ R Dd H, HI H R Dd → I xs.length σ R Dd → D.nx σ H) :
    (∃ b, V.ref a = .ref b ∧ (∃ xs, SqL K H b xs) ∧ ForK (Itl K b) g tb D σ H) ∨ ∃ b, V.ref a = .ref b ∧ (∃ xs, SqT K H b xs) ∧ ForK (Itt K b) g tb D σ H := by
  cases s with
  | l e => exact .inl ⟨a, rfl, ⟨xs, SqL.of (hi.dat e)⟩, for_lst I hi h0 (fun i σ R Dd p => (hl i σ R Dd p).2 _ _ e) hs hd⟩
  | t e => exact .inr ⟨a, rfl, ⟨xs, SqT.of (hi.dat e)⟩, for_tup I hi h0 (fun i σ R Dd p => (hl i σ R Dd p).2 _ _ e) hs hd⟩
  | c m => exact .inl ⟨a, rfl, ⟨xs, SqL.of (hi.get m)⟩, for_hi walk_list I hi h0 (fun i σ R Dd H _ q p => SqL.of (q.get ((hl i σ R Dd p).1 _ m))) (fun i x σ R Dd H H' hn a b y => by
      obtain ⟨rfl, y⟩ := y
      exact hs i x σ R Dd H' y a b) hd⟩
end
inductive RDictO (K : PySem.W.Frag) : List V → Hp → VK → Prop
  | p {a : Addr} {ps : List Addr} {kvs : List (Key × V)} {H : Hp} {Q : VK} : H a = some (.lst (ps.map V.ref)) → Paired (fun p kv => H p = some (.tup [kV kv.1, kv.2])) ps kvs → AlD (.dK (mergeK [] kvs)) H Q → RDictO K [.ref a] H Q
  | d {a : Addr} {kvs : List (Key × V)} {H : Hp} {Q : VK} : H a = some (.dK kvs) → AlD (.dK kvs) H Q → RDictO K [.ref a] H Q
theorem paired_mono {α β : Type} {r s : α → β → Prop} (h : ∀ a b, r a b → s a b) : ∀ {xs : List α} {ys : List β}, Paired r xs ys → Paired s xs ys
  | _, _, .nil => .nil
  | _, _, .cons a l => .cons (h _ _ a) (paired_mono h l)
theorem call_dictO {X : Cx} (hc : X.calm = true) : CallR X (.type "dict") (RDictO X.K) := by
  intro pins s σ H xs us Q I r h
  cases h with
  | p e pr q => exact call_dictP hc pins s σ H _ us Q I r ⟨_, _, _, rfl, SqL.of e, paired_mono (fun _ _ h => SqT.of h) pr, q⟩
  | d e q => exact call_dictD pins s σ H _ us Q I r ⟨_, _, rfl, .inl e, q⟩
/-- a field read within a comprehension -/
theorem pe_fldC {X : Cx} {K : PySem.W.Frag} {e : Expr} {ta : TE} {f : Str} {pos : Pos} (he : PE X e ta) (hb : attributeBase e f X.env (eval e X.env) = eval e X.env) (hK : X.K = K) : PE X (.Attribute e f pos) (tFld K ta f) := by
  subst hK
  exact pe_fld he hb
theorem ip_mk {g : Int → Int → Int} {i j : Int} {H : Hp} {N : V → Hp → Prop} (h : N (.int (g i j)) H) : ipI g (.int i) (.int j) H N := ⟨i, j, rfl, rfl, h⟩
end Wk
set_option maxRecDepth 100000
set_option maxHeartbeats 4000000
namespace Wk
open PySem PySem.Spec PyProof.Rows L2
/-- a value that is equal to itself by a look -/
def Sf (v : V) : Prop := flatB v = true ∨ ∃ a, v = .ref a
theorem Sf.ref (a : Addr) : Sf (.ref a) := .inr ⟨a, rfl⟩
inductive RGetL : V → V → Hp → VK → Prop
  | l {p : Addr} {xs : List V} {i : Int} {v : V} {H : Hp} {Q : VK} : H p = some (.lst xs) → 0 ≤ i → xs[i.toNat]? = some v → Q v H → RGetL (.ref p) (.int i) H Q
theorem st_augS {to ti te : TE} {tget : V → V → Hp → VK → Prop} {tip : TIp} {tset : TSet} {D : Ends} {σ : L2.St} {H : Hp} (h : to σ H fun o H1 => ti σ H1 fun i H2 => tget o i H2 fun x H3 => te σ H3 fun y H4 => tip x y H4 fun z H5 => tset o i z H5 fun H6 => D.nx σ H6) : tAugS to ti te tget tip tset D σ H := h
section
variable {K : PySem.W.Frag} {g : TG} {tb : TS} {D : Ends} {σ : L2.St} {H D0 : Hp} {R0 : Cells} {tt : TT} {te : TE} {vs : List Nat} {Q : VK} {a : Addr} {xs : List V}
theorem for_cell (I : Nat → L2.St → Cells → Hp → Prop) (hi : HI H R0 D0) (h0 : I 0 σ R0 D0) (hl : ∀ i σ R Dd, I i σ R Dd → ((a, HO.lst xs) : Addr × HO) ∈ R)
    (hs : ∀ (i : Nat) x σ R Dd H, xs[i]? = some x → HI H R Dd → I i σ R Dd → g x σ H fun σ2 H2 => tb { D with nx := NX I (i + 1), ct := NX I (i + 1), bk := D.nx } σ2 H2) (hd : ∀ σ R Dd H, HI H R Dd → I xs.length σ R Dd → D.nx σ H) : ForK (Itl K a) g tb D σ H :=
  for_hi walk_list I hi h0 (fun i σ R Dd H _ q p => SqL.of (q.get (hl i σ R Dd p))) (fun i x σ R Dd H H' hn a b y => by
    obtain ⟨rfl, y⟩ := y
    exact hs i x σ R Dd H' y a b) hd
end
theorem sm_kv {n k : Nat} : ∀ {ds : List (PyData × PyData)}, (∀ d ∈ ds, Sm d.1 n k ∧ Sm d.2 n k) → PyData.showableKv ds = true ∧ (((PyData.shownKv ds).map (·.length)).sum ≤ (2 * n + 2) * ds.length ∧ (PyData.shownKv ds).length = ds.length) ∧ PyData.depthKv ds ≤ k
  | [], _ => ⟨rfl, ⟨Nat.zero_le _, rfl⟩, Nat.zero_le _⟩
  | (x, y) :: ds, h => by
    obtain ⟨a, ⟨b, c⟩, e⟩ := sm_kv (ds := ds) fun z hz => h z (List.mem_cons_of_mem _ hz)
    obtain ⟨⟨a1, b1, e1⟩, ⟨a2, b2, e2⟩⟩ := h (x, y) (List.mem_cons_self ..)
    dsimp only at a1 b1 e1 a2 b2 e2
    refine ⟨?_, ⟨?_, ?_⟩, ?_⟩
    · simp only [PyData.showableKv, a1, a2, a, Bool.and_self]
    · simp only [PyData.shownKv, List.map_cons, List.sum_cons, List.length_cons, Nat.mul_succ]
      rw [len_app, len_app, show (": " : Str).length = 2 from rfl]
      omega
    · simp only [PyData.shownKv, List.length_cons, c]
    · simp only [PyData.depthKv]
      omega
theorem Sm.dict {n k : Nat} {ds : List (PyData × PyData)} (h : ∀ d ∈ ds, Sm d.1 n k ∧ Sm d.2 n k) : Sm (.dict ds) ((2 * n + 2) * ds.length + 2 * ds.length + 3) (k + 1) := by
  obtain ⟨a, ⟨b, c⟩, e⟩ := sm_kv h
  refine ⟨by simpa only [PyData.showable] using a, ?_, by simp only [PyData.depth]; omega⟩
  have jl := PySem.dictText_len_le (PyData.shownKv ds)
  rw [c] at jl
  have e4 : (PyData.dict ds).shown = PySem.dictText (PyData.shownKv ds) := by simp only [PyData.shown]
  rw [e4]
  omega
def tIfJ (tt : TT) (t u : TS) : TS := tIfS tt t u
theorem ps_ifJ {X : Cx} {test : Expr} {body orelse : List Stmt} {pos : Pos} {tt : TT} {t u : TS} (ht : PT X test tt) (hb : PSs X body t) (ho : PSs X orelse u) : PS X (.If test body orelse pos) (tIfJ tt t u) := ps_if ht hb ho
theorem st_ifJ {tt : TT} {t u : TS} {D : Ends} {σ : L2.St} {H : Hp} (I : L2.St → Hp → Prop) (tail : ∀ σ' H', I σ' H' → D.nx σ' H') (h : ∀ N : L2.St → Hp → Prop, (∀ σ' H', I σ' H' → N σ' H') → tt σ H fun b H1 => if b = true then t { D with nx := N } σ H1 else u { D with nx := N } σ H1) : tIfJ tt t u D σ H := h D.nx tail
def RvP (K : PySem.W.Frag) (x : V) (H : Hp) (Q : VK) : Prop := ∃ a xs, x = .ref a ∧ SqL K H a xs ∧ AlD (.lst xs.reverse) H Q
theorem se_revL {K : PySem.W.Frag} {te : TE} {σ : L2.St} {H : Hp} {Q : VK} (h : te σ H fun x H1 => RvP K x H1 Q) : tRevL K te σ H Q := h
theorem rv_mk {K : PySem.W.Frag} {H : Hp} {Q : VK} {a : Addr} {xs : List V} (e : H a = some (.lst xs)) (q : AlD (.lst xs.reverse) H Q) : RvP K (.ref a) H Q := ⟨a, xs, rfl, SqL.of e, q⟩
end Wk
set_option maxRecDepth 100000
set_option maxHeartbeats 4000000
namespace Wk
open PySem PySem.Spec PyProof.Rows L2
theorem Ty.mono {K : PySem.W.Frag} {H H' : Hp} {v : V} {t : Value} (h : Ty K H v t) (x : Ex H H') : Ty K H' v t := by
  cases h with
  | b h hn e => exact .b (h.mono x) hn e
  | o h => exact .o (h.mono x)
def TyC (K : PySem.W.Frag) (R : Cells) (D : Hp) (v : V) (t : Value) : Prop := Ty K D v t ∨ (∃ p xs, v = .ref p ∧ ((p, HO.lst xs) : Addr × HO) ∈ R ∧ t = .type "list") ∨ ∃ p kvs, v = .ref p ∧ ((p, HO.dK kvs) : Addr × HO) ∈ R ∧ t = .type "dict"
section
variable {K : PySem.W.Frag} {R R' : Cells} {D D' H : Hp} {v : V} {t : Value} {c : Addr × HO}
theorem TyC.mono (h : TyC K R D v t) (x : Ex D D') : TyC K R D' v t := by
  rcases h with h | h
  · exact .inl (h.mono x)
  · exact .inr h
theorem TyC.sub (h : TyC K R D v t) (s : ∀ q ∈ R, q ∈ R') : TyC K R' D v t := by
  rcases h with h | ⟨p, o, e, m, l⟩ | ⟨p, o, e, m, l⟩
  · exact .inl h
  · exact .inr (.inl ⟨p, o, e, s _ m, l⟩)
  · exact .inr (.inr ⟨p, o, e, s _ m, l⟩)
theorem TyC.cell (h : TyC K R D v t) : TyC K (c :: R) D v t := h.sub fun q hq => List.mem_cons_of_mem _ hq
theorem TyC.ty (h : TyC K R D v t) (hI : HI H R D) : Ty K H v t := by
  rcases h with h | ⟨p, xs, rfl, m, rfl⟩ | ⟨p, kvs, rfl, m, rfl⟩
  · exact h.mono hI.sub
  · exact .b (.lst (hI.get m)) (by decide +kernel) rfl
  · exact .b (.dict (hI.get m)) (by decide +kernel) rfl
end
end Wk
set_option maxRecDepth 100000
set_option maxHeartbeats 4000000
set_option maxRecDepth 100000
set_option maxHeartbeats 4000000
namespace Wk
open PySem PySem.Spec PyProof.Rows L2
/-- the list at a as it stands at each turn, each item in a new pair, counted from k -/
def IteF (K : PySem.W.Frag) (a : Addr) (k : Int) : It :=
  ⟨fun i H => ∃ (xs : List V) (x : V), SqL K H a xs ∧ xs[i]? = some x, fun i H v H' => ∃ T x, v = .ref T ∧ H T = none ∧ H' = upd H T (.tup [.int (k + (i : Nat)), x]) ∧ ∀ xs, SqL K H a xs → xs[i]? = some x, fun i H => ∃ xs : List V, SqL K H a xs ∧ xs.length = i⟩
def iEnumF (K : PySem.W.Frag) (ta tk : TA) : TI := fun σ H R => ta σ H fun vs H1 => tk σ H1 fun zs H2 => ∃ a xs k, vs = [.ref a] ∧ zs = [.int k] ∧ (-1000 ≤ k ∧ k ≤ 1000) ∧ SqL K H2 a xs ∧ R (IteF K a k) H2
section
variable {K : PySem.W.Frag} {σ : L2.St} {H D0 : Hp} {ta tk tl : TA} {te : TE} {R : It → Hp → Prop} {R0 : Cells} {a b : Addr} {xs ys : List V} {g : TG} {tb : TS} {D : Ends} {n : Nat}
theorem it_enumF (h : ta σ H fun vs H1 => tk σ H1 fun zs H2 => ∃ a xs k, vs = [.ref a] ∧ zs = [.int k] ∧ (-1000 ≤ k ∧ k ≤ 1000) ∧ SqL K H2 a xs ∧ R (IteF K a k) H2) : iEnumF K ta tk σ H R := h
theorem enumF_mk {k : Int} {P : Addr → Int → Prop} (h1 : H a = some (.lst xs)) (hk : -1000 ≤ k ∧ k ≤ 1000) (q : P a k) : ∃ a' xs k', [V.ref a] = [.ref a'] ∧ [V.int k] = [.int k'] ∧ (-1000 ≤ k' ∧ k' ≤ 1000) ∧ SqL K H a' xs ∧ P a' k' := ⟨a, xs, k, rfl, rfl, hk, SqL.of h1, q⟩
theorem it_rng3 (h : ta σ H fun vs H1 => ∃ (i j c : Int) (n : Nat), vs = [.int i, .int j, .int c] ∧ RgC i j c n ∧ R (Itc i c n) H1) : iRng3 ta σ H R := h
theorem rng3_dn {i j : Int} {P : Int → Int → Nat → Prop} (h : (-(2 ^ 62) ≤ i ∧ i < 2 ^ 62) ∧ -(2 ^ 62) ≤ j ∧ j < 2 ^ 62) (q : P i (-1) (i - j).toNat) : ∃ (i' j' c : Int) (n : Nat), [V.int i, V.int j, V.int (-1)] = [.int i', .int j', .int c] ∧ RgC i' j' c n ∧ P i' c n :=
  ⟨i, j, -1, _, rfl, RgC.neg h.1.1 h.1.2 h.2.1 h.2.2, q⟩
end
end Wk
set_option maxRecDepth 100000
set_option maxHeartbeats 4000000
namespace Wk
open PySem PySem.Spec PyProof.Rows L2
section
variable {J : It} {n : Nat} {g : TG} {tb : TS} {σ : L2.St} {H D0 : Hp} {R0 : Cells} {tt : TT} {te : TE} {vs : List Nat} {Q : VK} {d : Addr} {o : Obj} {kvs : List (Key × V)} {td : TE} {R : It → Hp → Prop}
theorem it_items (h : td σ H fun x H1 => ∃ d o kvs, x = .ref d ∧ H1 d = some (.frz o (.dK kvs)) ∧ R (Iti d o kvs) H1) : iItems td σ H R := h
end
end Wk
set_option maxRecDepth 100000
set_option maxHeartbeats 4000000
namespace Wk
open PySem PySem.Spec PyProof.Rows L2
/-- a short text is shown -/
def ShS (K : PySem.W.Frag) (H : Hp) (v : V) (n k : Nat) : Prop := ∃ t m, Shw K H v t m ∧ t.length ≤ n ∧ m ≤ k
def ShLs (K : PySem.W.Frag) (H : Hp) (vs : List V) (n k : Nat) : Prop := ∃ ts m, ShwL K H vs ts m ∧ ts.length = vs.length ∧ (∀ t ∈ ts, t.length ≤ n) ∧ m ≤ k
section
variable {K : PySem.W.Frag} {H H' D D' : Hp} {v : V} {n k n' k' : Nat}
theorem ShS.mono (h : ShS K H v n k) (x : Ex H H') : ShS K H' v n k := let ⟨t, m, a, b, c⟩ := h; ⟨t, m, a.mono x, b, c⟩
theorem ShS.le (h : ShS K H v n k) (a : n ≤ n') (b : k ≤ k') : ShS K H v n' k' := let ⟨t, m, c, d, e⟩ := h; ⟨t, m, c, Nat.le_trans d a, Nat.le_trans e b⟩
theorem ShLs.nil : ShLs K H [] n k := ⟨[], 0, .nil, rfl, all_n, Nat.zero_le _⟩
theorem ShLs.cons {vs : List V} (h : ShS K H v n k) (l : ShLs K H vs n k) : ShLs K H (v :: vs) n k := by
  obtain ⟨t, m, a, b, c⟩ := h
  obtain ⟨ts, m', d, e, f, g⟩ := l
  exact ⟨t :: ts, _, .cons a d, by rw [List.length_cons, e]; rfl, all_c b f, by omega⟩
theorem ShLs.of : ∀ {vs : List V}, (∀ v ∈ vs, ShS K H v n k) → ShLs K H vs n k
  | [], _ => .nil
  | v :: vs, h => .cons (h v (List.mem_cons_self ..)) (ShLs.of fun u hu => h u (List.mem_cons_of_mem _ hu))
theorem len_sum {ts : List Str} {n : Nat} (h : ∀ t ∈ ts, t.length ≤ n) : (ts.map (·.length)).sum ≤ n * ts.length := by
  induction ts with
  | nil => exact Nat.zero_le _
  | cons t ts ih =>
    have h1 := h t (List.mem_cons_self ..)
    have h2 := ih fun u hu => h u (List.mem_cons_of_mem _ hu)
    simp only [List.map_cons, List.sum_cons, List.length_cons, Nat.mul_succ]
    omega
theorem tupleText_len (ts : List Str) : (tupleText ts).length ≤ (ts.map (·.length)).sum + 2 * ts.length + 3 := by
  have jl := join_len (Str.ofString ", ") ts
  have e1 : (Str.ofString ", ").length = 2 := rfl
  have e2 : (Str.ofString "(").length = 1 := rfl
  have e3 : (Str.ofString ")").length = 1 := rfl
  have e4 : (Str.ofString ",)").length = 2 := rfl
  rw [e1] at jl
  match ts, jl with
  | [], jl => exact Nat.le_trans (show (tupleText []).length ≤ 3 by decide +kernel) (by omega)
  | [x], jl =>
    show ((Str.ofString "(") ++ x ++ (Str.ofString ",)")).length ≤ _
    rw [len_app, len_app, e2, e4]
    simp only [List.length_cons, List.length_nil, List.map_cons, List.map_nil, List.sum_cons, List.sum_nil]
    omega
  | x :: y :: r, jl =>
    show ((Str.ofString "(") ++ Str.join (Str.ofString ", ") (x :: y :: r) ++ (Str.ofString ")")).length ≤ _
    rw [len_app, len_app, e2, e3]
    omega
theorem dictText_len (ts : List Str) : (dictText ts).length ≤ (ts.map (·.length)).sum + 2 * ts.length + 3 := by
  have jl := join_len (Str.ofString ", ") ts
  have e1 : (Str.ofString ", ").length = 2 := rfl
  have e2 : (Str.ofString "{").length = 1 := rfl
  have e3 : (Str.ofString "}").length = 1 := rfl
  rw [e1] at jl
  show ((Str.ofString "{") ++ Str.join (Str.ofString ", ") ts ++ (Str.ofString "}")).length ≤ _
  rw [len_app, len_app, e2, e3]
  omega
theorem ShS.non : ShS K H .non 4 0 := ⟨_, _, .non, by decide +kernel, Nat.le_refl _⟩
theorem ShS.bl (b : Bool) : ShS K H (.bl b) 5 0 := by cases b <;> exact ⟨_, _, .bl _, by decide +kernel, Nat.le_refl _⟩
theorem ShS.int {i : Int} (h : i.natAbs < 10 ^ 30) : ShS K H (.int i) 31 0 := ⟨_, _, .int i (log2_small (by omega)), (tst h).1, Nat.le_refl _⟩
theorem ShS.str {z : Str} (h : Sg z) : ShS K H (.str z) (10 * z.length + 2) 0 := ⟨_, _, .str z, repr_len h, Nat.le_refl _⟩
theorem ShS.exc {a d C t1 : Addr} {z : Str} (e : H a = some (exq a C (some d) t1)) (e2 : H t1 = some (.tup [.str z])) (q : ExQ K C) (h : Sg z) (l : z.length ≤ 60) : ShS K H (.ref a) 800 1 := by
  refine ⟨_, _, .exc e e2 q, ?_, Nat.le_refl _⟩
  have h1 := q.hl
  have h2 := repr_len h
  rw [len_app, len_app, len_app]
  have e2 : (Str.ofString "(").length = 1 := rfl
  have e3 : (Str.ofString ")").length = 1 := rfl
  omega
theorem ShS.lst {a : Addr} {vs : List V} (e : H a = some (.lst vs)) (l : ShLs K H vs n k) : ShS K H (.ref a) (n * vs.length + 2 * vs.length + 3) (k + 1) := by
  obtain ⟨ts, m, a, b, c, d⟩ := l
  refine ⟨_, _, .lst e a, ?_, by omega⟩
  have h1 := len_sum c
  have h2 := PySem.listText_len_le ts
  rw [b] at h1 h2
  omega
theorem ShS.tup {a : Addr} {vs : List V} (e : H a = some (.tup vs)) (l : ShLs K H vs n k) : ShS K H (.ref a) (n * vs.length + 2 * vs.length + 3) (k + 1) := by
  obtain ⟨ts, m, a, b, c, d⟩ := l
  refine ⟨_, _, .tup e a, ?_, by omega⟩
  have h1 := len_sum c
  have h2 := tupleText_len ts
  rw [b] at h1 h2
  omega
/-- a small key -/
def SmK : Key → Prop
  | .inl i => i.natAbs < 10 ^ 30
  | .inr z => Sg z ∧ z.length ≤ 60
theorem SmK.kt {q : Key} (h : SmK q) : ∃ t, KT q t ∧ t.length ≤ 700 := by
  cases q with
  | inl i => exact ⟨_, .int i (log2_small (by have : i.natAbs < 10 ^ 30 := h; omega)), Nat.le_trans (tst (i := i) h).1 (by decide)⟩
  | inr z => exact ⟨_, .str z, by have := repr_len h.1; have := h.2; omega⟩
theorem shwK_of : ∀ {kvs : List (Key × V)}, (∀ p ∈ kvs, SmK p.1 ∧ ShS K H p.2 n k) → ∃ ts m, ShwK K H kvs ts m ∧ ts.length = kvs.length ∧ (∀ t ∈ ts, t.length ≤ n + 702) ∧ m ≤ k
  | [], _ => ⟨[], 0, .nil, rfl, all_n, Nat.zero_le _⟩
  | (q, v) :: kvs, h => by
    obtain ⟨ts, m, a, b, c, d⟩ := shwK_of (kvs := kvs) fun p hp => h p (List.mem_cons_of_mem _ hp)
    obtain ⟨h1, t, m1, h2, h3, h4⟩ := h _ (List.mem_cons_self ..)
    obtain ⟨kt, h5, h6⟩ := h1.kt
    refine ⟨_ :: ts, _, .cons h5 h2 a, by rw [List.length_cons, b]; rfl, all_c ?_ c, by omega⟩
    rw [len_app, len_app]
    have e2 : (Str.ofString ": ").length = 2 := rfl
    omega
theorem ShS.dict {a : Addr} {kvs : List (Key × V)} (e : H a = some (.dK kvs)) (l : ∀ p ∈ kvs, SmK p.1 ∧ ShS K H p.2 n k) : ShS K H (.ref a) ((n + 702) * kvs.length + 2 * kvs.length + 3) (k + 1) := by
  obtain ⟨ts, m, a, b, c, d⟩ := shwK_of l
  refine ⟨_, _, .dict e a, ?_, by omega⟩
  have h1 := len_sum c
  have h2 := dictText_len ts
  rw [b] at h1 h2
  omega
/-- the data, and the cells OC over it -/
def uni (OC : Cells) (D : Hp) : Hp := fun a => match OC.find? fun c => c.1 == a with
  | some c => some c.2
  | none => D a
theorem uni_ex {OC : Cells} (x : Ex D D') : Ex (uni OC D) (uni OC D') := fun a o e => by
  unfold uni at e ⊢
  split at e
  · exact e
  · exact x _ _ e
theorem HI.uni {R OC : Cells} (hI : HI H R D) (s : ∀ c ∈ OC, c ∈ R) : Ex (uni OC D) H := fun a o e => by
  unfold Wk.uni at e
  split at e
  · rename_i c hc
    have h1 := List.mem_of_find?_eq_some hc
    have h2 : (c.1 == a) = true := by simpa using List.find?_some hc
    have h3 : c.1 = a := by simpa using h2
    have g := hI.get (a := c.1) (o := c.2) (s _ h1)
    rw [h3] at g
    cases e
    exact g
  · exact hI.sub _ _ e
theorem HI.dn {R OC : Cells} (hI : HI H R D) (s : ∀ c ∈ OC, c ∈ R) : Ex D (Wk.uni OC D) := fun a o e => by
  unfold Wk.uni
  split
  · rename_i c hc
    have h1 := List.mem_of_find?_eq_some hc
    have h2 : (c.1 == a) = true := by simpa using List.find?_some hc
    have h3 : c.1 = a := by simpa using h2
    have g := (hI.cell c (s _ h1)).2
    rw [h3, e] at g
    cases g
  · exact e
theorem uni_at {OC : Cells} {a : Addr} {o : HO} (nd : (OC.map (·.1)).Nodup) (m : (a, o) ∈ OC) : uni OC D a = some o := by
  unfold uni
  have : OC.find? (fun c => c.1 == a) = some (a, o) := by
    induction OC with
    | nil => cases m
    | cons c OC ih =>
      rw [List.map_cons] at nd
      obtain ⟨n1, n2⟩ := List.nodup_cons.mp nd
      rcases List.mem_cons.mp m with e | m
      · subst e
        simp
      · have ne : c.1 ≠ a := fun z => n1 (z ▸ List.mem_map.mpr ⟨_, m, rfl⟩)
        rw [List.find?_cons_of_neg (by simpa using ne)]
        exact ih n2 m
  rw [this]
/-- a flat small value -/
inductive Fl : V → Prop
  | non : Fl .non
  | bl (b : Bool) : Fl (.bl b)
  | int {i : Int} (h : i.natAbs < 10 ^ 30) : Fl (.int i)
  | str {z : Str} (h : Sg z) (l : z.length ≤ 60) : Fl (.str z)
theorem Fl.sh (h : Fl v) : ShS K H v 700 0 := by
  cases h with
  | non => exact ShS.non.le (by decide) (Nat.le_refl _)
  | bl b => exact (ShS.bl b).le (by decide) (Nat.le_refl _)
  | int h => exact (ShS.int h).le (by decide) (Nat.le_refl _)
  | str h l => exact (ShS.str h).le (by omega) (Nat.le_refl _)
/-- an odd cell: a list or a dict of at most m flat values -/
inductive OkO (m : Nat) : HO → Prop
  | lst {xs : List V} (h : ∀ x ∈ xs, Fl x) (l : xs.length ≤ m) : OkO m (.lst xs)
  | dict {kvs : List (Key × V)} (h : ∀ p ∈ kvs, SmK p.1 ∧ Fl p.2) (l : kvs.length ≤ m) : OkO m (.dK kvs)
theorem OkO.le {m m' : Nat} {o : HO} (h : OkO m o) (l : m ≤ m') : OkO m' o := by
  cases h with
  | lst a b => exact .lst a (Nat.le_trans b l)
  | dict a b => exact .dict a (Nat.le_trans b l)
theorem OkO.ld {m : Nat} {o : HO} (h : OkO m o) : LD o := by
  cases h with
  | lst a b => exact .inl ⟨_, rfl⟩
  | dict a b => exact .inr ⟨_, rfl⟩
theorem OkO.sh {m : Nat} {o : HO} {a : Addr} (h : OkO m o) (hm : m ≤ 20) (e : H a = some o) : ShS K H (.ref a) 30000 1 := by
  cases h with
  | lst x l => exact (ShS.lst (n := 700) (k := 0) e (ShLs.of fun v hv => (x v hv).sh)).le (by have := Nat.mul_le_mul_left 700 (Nat.le_trans l hm); omega) (Nat.le_refl _)
  | dict x l => exact (ShS.dict (n := 700) (k := 0) e fun p hp => ⟨(x p hp).1, (x p hp).2.sh⟩).le (by have := Nat.mul_le_mul_left 1402 (Nat.le_trans l hm); omega) (Nat.le_refl _)
/-- a thing that is data, or one of the odd cells; P of its type -/
inductive Odt (K : PySem.W.Frag) (P : Value → Prop) (as : List Addr) (D : Hp) : V → Prop
  | dat {v : V} {k : Knd} {t : Value} (kn : Kn K D v k) (ty : Ty K D v t) (p : P t) (s : ShS K D v 30000 20) (z : ∀ z, v = .str z → TxtOk z) (nl : k.is "list" = false) (nd : k.is "dict" = false) : Odt K P as D v
  | cell {a : Addr} (m : a ∈ as) : Odt K P as D (.ref a)
theorem Odt.mono {P : Value → Prop} {as : List Addr} (h : Odt K P as D v) (x : Ex D D') : Odt K P as D' v := by
  cases h with
  | dat kn ty p s z a b => exact .dat (kn.mono x) (ty.mono x) p (s.mono x) z a b
  | cell m => exact .cell m
theorem Odt.sub {P : Value → Prop} {as bs : List Addr} (h : Odt K P as D v) (x : ∀ a ∈ as, a ∈ bs) : Odt K P bs D v := by
  cases h with
  | dat kn ty p s z a b => exact .dat kn ty p s z a b
  | cell m => exact .cell (x _ m)
theorem Odt.imp {P P' : Value → Prop} {as : List Addr} (h : Odt K P as D v) (x : ∀ t, P t → P' t) : Odt K P' as D v := by
  cases h with
  | dat kn ty p s z a b => exact .dat kn ty (x _ p) s z a b
  | cell m => exact .cell m
section
variable {P : Value → Prop} {OC R : Cells} {m : Nat}
theorem mem_fst {OC : Cells} {a : Addr} (h : a ∈ OC.map (·.1)) : ∃ o, (a, o) ∈ OC := by
  obtain ⟨c, hc, rfl⟩ := List.mem_map.mp h
  exact ⟨c.2, hc⟩
theorem Odt.mt (h : Odt K P (OC.map (·.1)) D v) (ok : ∀ c ∈ OC, OkO m c.2) (s : ∀ c ∈ OC, c ∈ R) : Mt K R D v := by
  cases h with
  | dat kn ty p s z a b => exact Th.m ⟨⟨_, kn⟩, z⟩
  | cell hm =>
    obtain ⟨o, hc⟩ := mem_fst hm
    exact .inr ⟨_, o, rfl, s _ hc, (ok _ hc).ld⟩
theorem Odt.ty (h : Odt K P (OC.map (·.1)) D v) (ok : ∀ c ∈ OC, OkO m c.2) (s : ∀ c ∈ OC, c ∈ R) (p1 : P (.type "list")) (p2 : P (.type "dict")) : ∃ t, TyC K R D v t ∧ P t := by
  cases h with
  | dat kn ty p s z a b => exact ⟨_, .inl ty, p⟩
  | cell hm =>
    obtain ⟨o, hc⟩ := mem_fst hm
    have hs := s _ hc
    have l : LD o := (ok _ hc).ld
    rcases l with ⟨xs, rfl⟩ | ⟨kvs, rfl⟩
    · exact ⟨_, .inr (.inl ⟨_, xs, rfl, hs, rfl⟩), p1⟩
    · exact ⟨_, .inr (.inr ⟨_, kvs, rfl, hs, rfl⟩), p2⟩
theorem HI.ndS (hI : HI H R D) (sl : OC.Sublist R) : (OC.map (·.1)).Nodup := (sl.map (·.1)).nodup hI.nd
theorem Odt.sh (h : Odt K P (OC.map (·.1)) D v) (hI : HI H R D) (ok : ∀ c ∈ OC, OkO m c.2) (sl : OC.Sublist R) (hm : m ≤ 20) : ShS K (uni OC D) v 30000 20 := by
  have s : ∀ c ∈ OC, c ∈ R := fun c hc => sl.subset hc
  cases h with
  | dat kn ty p sh z a b => exact sh.mono (hI.dn s)
  | cell hm2 =>
    obtain ⟨o, hc⟩ := mem_fst hm2
    exact ((ok _ hc).sh hm (uni_at (hI.ndS sl) hc)).le (Nat.le_refl _) (by decide)
/-- the cell of an odd thing, its place in the list of cells -/
theorem mem_cut {OC : Cells} {a : Addr} {o : HO} (h : (a, o) ∈ OC) : ∃ A B, OC = A ++ (a, o) :: B := List.append_of_mem h
end
end
theorem HI.front {H D : Hp} {A B : Cells} {c : Addr × HO} (h : HI H (A ++ c :: B) D) : HI H (c :: (A ++ B)) D := h.perm List.perm_middle
theorem HI.back {H D : Hp} {A B : Cells} {c : Addr × HO} (h : HI H (c :: (A ++ B)) D) : HI H (A ++ c :: B) D := h.perm List.perm_middle.symm
theorem HI.up4 {H D : Hp} {R : Cells} {x y z u v : Addr × HO} (h : HI H (x :: y :: z :: u :: v :: R) D) : HI H (v :: x :: y :: z :: u :: R) D := HI.front (A := [x, y, z, u]) h
/-- one more item, one more key -/
theorem OkO.app {m : Nat} {xs : List V} {v : V} (h : OkO m (.lst xs)) (f : Fl v) : OkO (m + 1) (.lst (xs ++ [v])) := by
  cases h with
  | lst a b =>
    refine .lst (fun x hx => ?_) (by rw [List.length_append]; exact Nat.succ_le_succ b)
    rcases List.mem_append.mp hx with h | h
    · exact a x h
    · rw [List.mem_singleton.mp h]
      exact f
theorem OkO.put {m : Nat} {kvs : List (Key × V)} {q : Key} {v : V} (h : OkO m (.dK kvs)) (k : SmK q) (f : Fl v) : OkO (m + 1) (.dK (putK kvs q v)) := by
  cases h with
  | dict a b =>
    refine .dict (fun p hp => ?_) (Nat.le_trans (length_putK kvs q v) (Nat.succ_le_succ b))
    unfold putK at hp
    split at hp
    · obtain ⟨p0, h0, e⟩ := List.mem_map.mp hp
      by_cases g : p0.1 = q
      · rw [if_pos g] at e
        rw [← e]
        exact ⟨(a p0 h0).1, f⟩
      · rw [if_neg g] at e
        rw [← e]
        exact a p0 h0
    · rcases List.mem_append.mp hp with h | h
      · exact a p h
      · rw [List.mem_singleton.mp h]
        exact ⟨k, f⟩
/-- a display that stays a cell -/
def tDispM (trs : List (TE × TE)) : TE := tDisp trs
theorem dispM {X : Cx} {e : Expr} {trs : List (TE × TE)} (h : PE X e (tDisp trs)) : PE X e (tDispM trs) := h
theorem se_dispM {σ : L2.St} {H : Hp} {Q : VK} {D : Hp} {R : Cells} {trs : List (TE × TE)} (hi : HI H R D) (h : ∀ p H1, HI H1 ((p, .dK []) :: R) D → tPairs trs σ H1 fun ps H2 => DispP p ps H2 Q) : tDispM trs σ H Q := fun p hp => h p _ (hi.new hp)
theorem disp_nowM {H : Hp} {Q : VK} {p : Addr} {ps : List (V × V)} {kvs : List (Key × V)} {R : Cells} {D : Hp} (hi : HI H ((p, .dK []) :: R) D) (e : keysOf ps = some kvs) (hl : kvs.length ≤ 15) (k : ∀ H', HI H' ((p, .dK (mergeK [] kvs)) :: R) D → Q (.ref p) H') : DispP p ps H Q :=
  ⟨hi.get (List.mem_cons_self ..), kvs, keysOf_ok e, hl, k _ (hi.set (u := .dK (mergeK [] kvs)))⟩
/-- two tuples that say the same: a word and an odd thing, or data -/
def TwoS (K : PySem.W.Frag) (P : Value → Prop) (as : List Addr) (D : Hp) (p1 p2 : Addr) : Prop := (∃ (w : Str) (v : V), D p1 = some (.tup [.str w, v]) ∧ D p2 = some (.tup [.str w, v]) ∧ Sg w ∧ w.length ≤ 60 ∧ Odt K P as D v) ∨
  ∃ t n, Shw K D (.ref p1) t n ∧ Shw K D (.ref p2) t n ∧ t.length ≤ 100000 ∧ n ≤ 40
section
variable {K : PySem.W.Frag} {H H' D D' : Hp} {P : Value → Prop} {OC R : Cells} {m : Nat} {p1 p2 : Addr} {as : List Addr}
theorem TwoS.mono (h : TwoS K P as D p1 p2) (x : Ex D D') : TwoS K P as D' p1 p2 := by
  rcases h with ⟨w, v, a, b, c, d, e⟩ | ⟨t, n, a, b, c, d⟩
  · exact .inl ⟨w, v, x _ _ a, x _ _ b, c, d, e.mono x⟩
  · exact .inr ⟨t, n, a.mono x, b.mono x, c, d⟩
theorem TwoS.sh (h : TwoS K P (OC.map (·.1)) D p1 p2) (hI : HI H R D) (ok : ∀ c ∈ OC, OkO m c.2) (sl : OC.Sublist R) (hm : m ≤ 20) : ∃ t n, Shw K (uni OC D) (.ref p1) t n ∧ Shw K (uni OC D) (.ref p2) t n ∧ t.length ≤ 100000 ∧ n ≤ 40 := by
  have x := hI.dn (OC := OC) fun c hc => sl.subset hc
  rcases h with ⟨w, v, a, b, c, d, e⟩ | ⟨t, n, a, b, c, d⟩
  · obtain ⟨t, n, s, l, g⟩ := e.sh hI ok sl hm
    refine ⟨_, _, .tup (x _ _ a) (.cons (.str w) (.cons s .nil)), .tup (x _ _ b) (.cons (.str w) (.cons s .nil)), ?_, ?_⟩
    · have h1 := tupleText_len [reprText w, t]
      have h2 := repr_len c
      simp only [List.map_cons, List.map_nil, List.sum_cons, List.sum_nil, List.length_cons, List.length_nil] at h1
      omega
    · omega
  · exact ⟨t, n, a.mono x, b.mono x, c, d⟩
end
theorem Odt.of_non {K : PySem.W.Frag} {P : Value → Prop} {as : List Addr} {D : Hp} (p : P (.type "NoneType")) : Odt K P as D .non := .dat .non (.b .non (by decide +kernel) rfl) p (ShS.non.le (by decide) (by decide)) (fun z e => nomatch e) rfl rfl
theorem Odt.of_bl {K : PySem.W.Frag} {P : Value → Prop} {as : List Addr} {D : Hp} (b : Bool) (p : P (.type "bool")) : Odt K P as D (.bl b) := .dat (.bl b) (.b (.bl b) (by decide +kernel) rfl) p ((ShS.bl b).le (by decide) (by decide)) (fun z e => nomatch e) rfl rfl
theorem Odt.of_int {K : PySem.W.Frag} {P : Value → Prop} {as : List Addr} {D : Hp} {i : Int} (h : i.natAbs < 10 ^ 30) (p : P (.type "int")) : Odt K P as D (.int i) := .dat (.int i) (.b (.int i) (by decide +kernel) rfl) p ((ShS.int h).le (by decide) (by decide)) (fun z e => nomatch e) rfl rfl
theorem Odt.of_str {K : PySem.W.Frag} {P : Value → Prop} {as : List Addr} {D : Hp} {z : Str} (h : Sg z) (l : z.length ≤ 1000) (p : P (.type "str")) : Odt K P as D (.str z) := .dat (.str z) (.b (.str z) (by decide +kernel) rfl) p ((ShS.str h).le (by omega) (by decide)) (fun y e => by cases e; exact ⟨l, h⟩) rfl rfl
theorem Odt.of_tup {K : PySem.W.Frag} {P : Value → Prop} {as : List Addr} {D : Hp} {a : Addr} {xs : List V} (e : D a = some (.tup xs)) (l : ∀ v ∈ xs, ShS K D v 1000 18) (h : xs.length ≤ 20) (p : P (.type "tuple")) : Odt K P as D (.ref a) :=
  .dat (.tup e) (.b (.tup e) (by decide +kernel) rfl) p ((ShS.tup (n := 1000) (k := 18) e (ShLs.of l)).le (by have := Nat.mul_le_mul_left 1000 h; omega) (by decide)) (fun z e => nomatch e) rfl rfl
theorem Odt.of_exc {K : PySem.W.Frag} {P : Value → Prop} {as : List Addr} {D : Hp} {a d C t1 : Addr} {z : Str} {fs : List (Str × V)} (e : D a = some (exq a C (some d) t1)) (ed : D d = some (exd d fs)) (e2 : D t1 = some (.tup [.str z])) (q : ExQ K C) (h : Sg z) (l : z.length ≤ 60) (c : ExcC K C) (s : Six K C) (p : P (.ref C)) : Odt K P as D (.ref a) :=
  .dat (.excq e ed c s) (.o (.excq e ed c)) p ((ShS.exc e e2 q h l).le (by decide) (by decide)) (fun z e => nomatch e) rfl rfl
/-- the list at pp, a cell or data -/
def PAt (R : Cells) (D : Hp) (pp : Addr) (xs : List V) : Prop := ((pp, HO.lst xs) : Addr × HO) ∈ R ∨ D pp = some (.lst xs)
theorem PAt.h {R : Cells} {D H : Hp} {pp : Addr} {xs : List V} (m : PAt R D pp xs) (hI : HI H R D) : H pp = some (.lst xs) := m.elim hI.get hI.dat
theorem st_par3 {i j l : Nat} {t : TA} {D : Ends} {σ : L2.St} {H : Hp} (h : t σ H fun vs H1 => ∃ u v w, vs = [u, v, w] ∧ D.nx (((σ.set i (some u)).set j (some v)).set l (some w)) H1) : tPar3 i j l t D σ H := h
theorem par3_mk {x y z : V} {P : V → V → V → Prop} (h : P x y z) : ∃ u v w, [x, y, z] = [u, v, w] ∧ P u v w := ⟨x, y, z, rfl, h⟩
end Wk
set_option maxRecDepth 100000
set_option maxHeartbeats 4000000
namespace Wk
open PySem PySem.Spec PyProof.Rows L2 PySem.SeqAt
open AutoSeq1 (wpAny_loadPart')
open MeetsSeq MeetsSeq2 MeetsSeq3 SeqRoads2
abbrev EqRel := V → Addr → Hp → (Bool → Hp → Prop) → Prop
def EqRun (X : Cx) (n : Nat) (r : EqRel) : Prop := ∀ (A : Around) (pins : List (Addr × Obj)) (s : Shared) (σ : L2.St) (H : Hp) (y : V) (a : Addr) (v : Value) (P : Bool → Hp → Prop), A.guards = some [] → A.frames = X.A.frames → Room n A → Inv X pins σ H s → RelV y v → r y a H P →
  wpAny (model X.prog X.w) A (eqBool v (.ref a)) (fun b s' => ∃ H', Inv X pins σ H' s' ∧ P b H') X.xe s
theorem EqRun.mono {X : Cx} {n m : Nat} {r : EqRel} (h : EqRun X n r) (l : n ≤ m) : EqRun X m r := fun A pins s σ H y a v P hg hf hr I rv q => h A pins s σ H y a v P hg hf (hr.mono l) I rv q
end Wk
set_option maxRecDepth 100000
set_option maxHeartbeats 4000000
namespace Wk
open PySem PySem.Spec PyProof.Rows L2
inductive RFmtO (C : Addr) (sp : Sp) : V → Hp → VK → Prop
  | b {x : V} {H : Hp} {Q : VK} : RFmt x H Q → RFmtO C sp x H Q
  | o {a dx : Addr} {fs : List (Str × V)} {H : Hp} {Q : VK} : H a = some (.ins C dx fs) → sp [.ref a] H (fun v H' => ∃ z, v = .str z ∧ Q (.str z) H') (fun _ _ _ => False) → RFmtO C sp (.ref a) H Q
def tFmtO (C : Addr) (sp : Sp) (te : TE) : TE := fun σ H Q => te σ H fun x H1 => RFmtO C sp x H1 Q
theorem se_fmtO {C : Addr} {sp : Sp} {te : TE} {σ : L2.St} {H : Hp} {Q : VK} (h : te σ H fun x H1 => RFmtO C sp x H1 Q) : tFmtO C sp te σ H Q := h
end Wk
set_option maxRecDepth 100000
set_option maxHeartbeats 4000000
namespace Wk
open PySem PySem.Spec PyProof.Rows L2
section
variable {K : PySem.W.Frag} {σ : L2.St} {H D : Hp} {R : Cells} {Q : VK} {ta tb te : TE}
theorem se_lrg (h : ta σ H fun x H1 => tb σ H1 fun y H2 => ∃ i j, x = .int i ∧ y = .int j ∧ RgOk i j ∧ AlD (.lst (rgV i j)) H2 Q) : tLstRg (tRg2 ta tb) σ H Q := h
theorem lrg_mk {i j : Int} (h : RgOk i j) (q : AlD (.lst (rgV i j)) H Q) : ∃ i' j', V.int i = .int i' ∧ V.int j = .int j' ∧ RgOk i' j' ∧ AlD (.lst (rgV i' j')) H Q := ⟨i, j, rfl, rfl, h, q⟩
end
end Wk
set_option maxRecDepth 100000
set_option maxHeartbeats 4000000
namespace Wk
open PySem PySem.Spec PyProof.Rows L2
def top (i : Nat) : Stmt := PySem.Challenge.pw_weekheads_k12_years_refused.main.body.getD i (.Pass ⟨0, 0, 0, 0⟩)
abbrev s__wall : Stmt := top 0
abbrev s_NoNumber_init : Stmt := inClass (top 4) 0
abbrev s_NoSort_init : Stmt := inClass (top 5) 0
abbrev s_NoYear_init : Stmt := inClass (top 6) 0
abbrev s_NoWeek_init : Stmt := inClass (top 7) 0
abbrev s_NotThere_init : Stmt := inClass (top 8) 0
abbrev s_is_whole : Stmt := top 10
abbrev s_is_warmth : Stmt := top 15
abbrev s_is_cold : Stmt := top 16
abbrev s_is_pair : Stmt := top 17
abbrev s_Year_init : Stmt := inClass (top 18) 0
abbrev s_Year_len : Stmt := inClass (top 18) 1
abbrev s_Year_eq : Stmt := inClass (top 18) 2
abbrev s_Year_need_week : Stmt := inClass (top 18) 3
abbrev s_Year_pair : Stmt := inClass (top 18) 4
abbrev s_Year_tell : Stmt := inClass (top 18) 5
abbrev s_Year_back : Stmt := inClass (top 18) 6
abbrev s_Year_warmth : Stmt := inClass (top 18) 7
abbrev s_Year_cold : Stmt := inClass (top 18) 8
abbrev s_Year_warm_sum : Stmt := inClass (top 18) 9
abbrev s_Year_coldest : Stmt := inClass (top 18) 10
abbrev s_Year_told : Stmt := inClass (top 18) 11
abbrev s_Year_weeks : Stmt := inClass (top 18) 12
abbrev s_Year_copied : Stmt := inClass (top 18) 13
abbrev s_l_cell : Stmt := top 20
abbrev s_l_box : Stmt := top 21
abbrev s_l_take : Stmt := top 22
abbrev s_l_week : Stmt := top 23
abbrev s_l_weeks : Stmt := top 24
abbrev s_l_odd : Stmt := top 25
abbrev s_l_number : Stmt := top 26
abbrev s_l_whole : Stmt := top 27
abbrev s_l_are_weeks : Stmt := top 28
abbrev s_l_near : Stmt := top 29
abbrev s_l_made : Stmt := top 30
abbrev s_l_made_right : Stmt := top 31
abbrev s_l_due : Stmt := top 32
abbrev s_l_call : Stmt := top 33
abbrev s_l_found : Stmt := top 34
abbrev s_l_refused_right : Stmt := top 35
abbrev s_law : Stmt := top 36
def d__wall : He.DefD := ⟨("_wall", none), "_wall", "_wall", defArgs s__wall, defBody s__wall, defScope s__wall, [], []⟩
def d_NoNumber_init : He.DefD := ⟨("NoNumber", some "__init__"), "__init__", "NoNumber.__init__", defArgs s_NoNumber_init, defBody s_NoNumber_init, defScope s_NoNumber_init, [], []⟩
def d_NoSort_init : He.DefD := ⟨("NoSort", some "__init__"), "__init__", "NoSort.__init__", defArgs s_NoSort_init, defBody s_NoSort_init, defScope s_NoSort_init, [], []⟩
def d_NoYear_init : He.DefD := ⟨("NoYear", some "__init__"), "__init__", "NoYear.__init__", defArgs s_NoYear_init, defBody s_NoYear_init, defScope s_NoYear_init, [], []⟩
def d_NoWeek_init : He.DefD := ⟨("NoWeek", some "__init__"), "__init__", "NoWeek.__init__", defArgs s_NoWeek_init, defBody s_NoWeek_init, defScope s_NoWeek_init, [], []⟩
def d_NotThere_init : He.DefD := ⟨("NotThere", some "__init__"), "__init__", "NotThere.__init__", defArgs s_NotThere_init, defBody s_NotThere_init, defScope s_NotThere_init, [], []⟩
def d_is_whole : He.DefD := ⟨("is_whole", none), "is_whole", "is_whole", defArgs s_is_whole, defBody s_is_whole, defScope s_is_whole, [], []⟩
def d_is_warmth : He.DefD := ⟨("is_warmth", none), "is_warmth", "is_warmth", defArgs s_is_warmth, defBody s_is_warmth, defScope s_is_warmth, [], []⟩
def d_is_cold : He.DefD := ⟨("is_cold", none), "is_cold", "is_cold", defArgs s_is_cold, defBody s_is_cold, defScope s_is_cold, [], []⟩
def d_is_pair : He.DefD := ⟨("is_pair", none), "is_pair", "is_pair", defArgs s_is_pair, defBody s_is_pair, defScope s_is_pair, [], []⟩
def d_Year_init : He.DefD := ⟨("Year", some "__init__"), "__init__", "Year.__init__", defArgs s_Year_init, defBody s_Year_init, defScope s_Year_init, [], []⟩
def d_Year_len : He.DefD := ⟨("Year", some "__len__"), "__len__", "Year.__len__", defArgs s_Year_len, defBody s_Year_len, defScope s_Year_len, [], []⟩
def d_Year_eq : He.DefD := ⟨("Year", some "__eq__"), "__eq__", "Year.__eq__", defArgs s_Year_eq, defBody s_Year_eq, defScope s_Year_eq, [], []⟩
def d_Year_need_week : He.DefD := ⟨("Year", some "need_week"), "need_week", "Year.need_week", defArgs s_Year_need_week, defBody s_Year_need_week, defScope s_Year_need_week, [], []⟩
def d_Year_pair : He.DefD := ⟨("Year", some "pair"), "pair", "Year.pair", defArgs s_Year_pair, defBody s_Year_pair, defScope s_Year_pair, [], []⟩
def d_Year_tell : He.DefD := ⟨("Year", some "tell"), "tell", "Year.tell", defArgs s_Year_tell, defBody s_Year_tell, defScope s_Year_tell, [.non], []⟩
def d_Year_back : He.DefD := ⟨("Year", some "back"), "back", "Year.back", defArgs s_Year_back, defBody s_Year_back, defScope s_Year_back, [], []⟩
def d_Year_warmth : He.DefD := ⟨("Year", some "warmth"), "warmth", "Year.warmth", defArgs s_Year_warmth, defBody s_Year_warmth, defScope s_Year_warmth, [], []⟩
def d_Year_cold : He.DefD := ⟨("Year", some "cold"), "cold", "Year.cold", defArgs s_Year_cold, defBody s_Year_cold, defScope s_Year_cold, [], []⟩
def d_Year_warm_sum : He.DefD := ⟨("Year", some "warm_sum"), "warm_sum", "Year.warm_sum", defArgs s_Year_warm_sum, defBody s_Year_warm_sum, defScope s_Year_warm_sum, [], []⟩
def d_Year_coldest : He.DefD := ⟨("Year", some "coldest"), "coldest", "Year.coldest", defArgs s_Year_coldest, defBody s_Year_coldest, defScope s_Year_coldest, [], []⟩
def d_Year_told : He.DefD := ⟨("Year", some "told"), "told", "Year.told", defArgs s_Year_told, defBody s_Year_told, defScope s_Year_told, [], []⟩
def d_Year_weeks : He.DefD := ⟨("Year", some "weeks"), "weeks", "Year.weeks", defArgs s_Year_weeks, defBody s_Year_weeks, defScope s_Year_weeks, [], []⟩
def d_Year_copied : He.DefD := ⟨("Year", some "copied"), "copied", "Year.copied", defArgs s_Year_copied, defBody s_Year_copied, defScope s_Year_copied, [], []⟩
def d_l_cell : He.DefD := ⟨("_law_cell", none), "_law_cell", "_law_cell", defArgs s_l_cell, defBody s_l_cell, defScope s_l_cell, [], []⟩
def d_l_box : He.DefD := ⟨("_law_box", none), "_law_box", "_law_box", defArgs s_l_box, defBody s_l_box, defScope s_l_box, [], []⟩
def d_l_take : He.DefD := ⟨("_law_take", none), "_law_take", "_law_take", defArgs s_l_take, defBody s_l_take, defScope s_l_take, [], []⟩
def d_l_week : He.DefD := ⟨("_law_week", none), "_law_week", "_law_week", defArgs s_l_week, defBody s_l_week, defScope s_l_week, [], []⟩
def d_l_weeks : He.DefD := ⟨("_law_weeks", none), "_law_weeks", "_law_weeks", defArgs s_l_weeks, defBody s_l_weeks, defScope s_l_weeks, [], []⟩
def d_l_odd : He.DefD := ⟨("_law_odd", none), "_law_odd", "_law_odd", defArgs s_l_odd, defBody s_l_odd, defScope s_l_odd, [], []⟩
def d_l_number : He.DefD := ⟨("_law_number", none), "_law_number", "_law_number", defArgs s_l_number, defBody s_l_number, defScope s_l_number, [], []⟩
def d_l_whole : He.DefD := ⟨("_law_whole", none), "_law_whole", "_law_whole", defArgs s_l_whole, defBody s_l_whole, defScope s_l_whole, [], []⟩
def d_l_are_weeks : He.DefD := ⟨("_law_are_weeks", none), "_law_are_weeks", "_law_are_weeks", defArgs s_l_are_weeks, defBody s_l_are_weeks, defScope s_l_are_weeks, [], []⟩
def d_l_near : He.DefD := ⟨("_law_near", none), "_law_near", "_law_near", defArgs s_l_near, defBody s_l_near, defScope s_l_near, [], []⟩
def d_l_made : He.DefD := ⟨("_law_made", none), "_law_made", "_law_made", defArgs s_l_made, defBody s_l_made, defScope s_l_made, [], []⟩
def d_l_made_right : He.DefD := ⟨("_law_made_right", none), "_law_made_right", "_law_made_right", defArgs s_l_made_right, defBody s_l_made_right, defScope s_l_made_right, [], []⟩
def d_l_due : He.DefD := ⟨("_law_due", none), "_law_due", "_law_due", defArgs s_l_due, defBody s_l_due, defScope s_l_due, [], []⟩
def d_l_call : He.DefD := ⟨("_law_call", none), "_law_call", "_law_call", defArgs s_l_call, defBody s_l_call, defScope s_l_call, [], []⟩
def d_l_found : He.DefD := ⟨("_law_found", none), "_law_found", "_law_found", defArgs s_l_found, defBody s_l_found, defScope s_l_found, [], []⟩
def d_l_refused_right : He.DefD := ⟨("_law_refused_right", none), "_law_refused_right", "_law_refused_right", defArgs s_l_refused_right, defBody s_l_refused_right, defScope s_l_refused_right, [], []⟩
def d_law : He.DefD := ⟨("law", none), "law", "law", defArgs s_law, defBody s_law, defScope s_law, [], []⟩
def fn : List He.DefD := [d__wall, d_NoNumber_init, d_NoSort_init, d_NoYear_init, d_NoWeek_init, d_NotThere_init, d_is_whole, d_is_warmth, d_is_cold, d_is_pair, d_Year_init, d_Year_len, d_Year_eq, d_Year_need_week, d_Year_pair, d_Year_tell, d_Year_back, d_Year_warmth, d_Year_cold, d_Year_warm_sum, d_Year_coldest, d_Year_told, d_Year_weeks, d_Year_copied, d_l_cell, d_l_box, d_l_take, d_l_week, d_l_weeks, d_l_odd, d_l_number, d_l_whole, d_l_are_weeks, d_l_near, d_l_made, d_l_made_right, d_l_due, d_l_call, d_l_found, d_l_refused_right, d_law]
def cs : List Str := ["WeekError", "MissError", "NoNumber", "NoSort", "NoYear", "NoWeek", "NotThere", "Year"]
def fx0 : List WA.Fx := [fun K => (He.Fa.glo "_wall").ok K, fun K => (He.Fa.glo "is_whole").ok K, fun K => (He.Fa.glo "is_warmth").ok K, fun K => (He.Fa.glo "is_cold").ok K, fun K => (He.Fa.glo "is_pair").ok K, fun K => (He.Fa.glo "_law_cell").ok K, fun K => (He.Fa.glo "_law_box").ok K, fun K => (He.Fa.glo "_law_take").ok K, fun K => (He.Fa.glo "_law_week").ok K, fun K => (He.Fa.glo "_law_weeks").ok K, fun K => (He.Fa.glo "_law_odd").ok K, fun K => (He.Fa.glo "_law_number").ok K, fun K => (He.Fa.glo "_law_whole").ok K, fun K => (He.Fa.glo "_law_are_weeks").ok K, fun K => (He.Fa.glo "_law_near").ok K, fun K => (He.Fa.glo "_law_made").ok K, fun K => (He.Fa.glo "_law_made_right").ok K, fun K => (He.Fa.glo "_law_due").ok K, fun K => (He.Fa.glo "_law_call").ok K, fun K => (He.Fa.glo "_law_found").ok K, fun K => (He.Fa.glo "_law_refused_right").ok K, fun K => (He.Fa.glo "law").ok K, fun K => (He.Fa.free "len").ok K, fun K => (He.Fa.free "isinstance").ok K, fun K => (He.Fa.free "repr").ok K, fun K => (He.Fa.free "range").ok K, fun K => (He.Fa.free "max").ok K, fun K => (He.Fa.free "min").ok K, fun K => (He.Fa.free "all").ok K, fun K => (He.Fa.free "sum").ok K, fun K => (He.Fa.free "sorted").ok K, fun K => (He.Fa.free "int").ok K, fun K => (He.Fa.free "list").ok K, fun K => (He.Fa.free "tuple").ok K, fun K => (He.Fa.free "dict").ok K, fun K => (He.Fa.free "bool").ok K, fun K => (He.Fa.free "ValueError").ok K, fun K => (He.Fa.free "LookupError").ok K, fun K => (He.Fa.int "MOST_WEEKS" 52).ok K, fun K => (He.Fa.int "MOST_WARMTH" 400).ok K]
def fx1 : List WA.Fx := [fun K => (He.Fa.int "MOST_COLD" 60).ok K, fun K => (He.Fa.glo "WeekError").ok K, Wk.sixB "WeekError", Wk.exbB "WeekError", fun K => (He.Fa.glo "MissError").ok K, Wk.sixB "MissError", Wk.LE.exbB "MissError", fun K => (He.Fa.glo "NoNumber").ok K, Wk.sixB "NoNumber", Wk.exkB "NoNumber", fun K => (He.Fa.glo "NoSort").ok K, Wk.sixB "NoSort", Wk.exkB "NoSort", Wk.exqB "NoSort", fun K => (He.Fa.glo "NoYear").ok K, Wk.sixB "NoYear", Wk.exkB "NoYear", fun K => (He.Fa.glo "NoWeek").ok K, Wk.sixB "NoWeek", Wk.exkB "NoWeek", fun K => (He.Fa.glo "NotThere").ok K, Wk.sixB "NotThere", Wk.LE.exkB "NotThere", fun K => (He.Fa.glo "Year").ok K, Wk.sixB "Year", fun K => (He.Fa.cls "Year").ok K, fun K => (He.Fa.mkr "Year").ok K, Wk.insB "Year", Wk.pcB "Year" ["kept_normal", "kept_told"], fun K => (He.Fa.meth "Year" "__len__").ok K, fun K => (He.Fa.meth "Year" "__eq__").ok K, fun K => (He.Fa.meth "Year" "need_week").ok K, fun K => (He.Fa.meth "Year" "pair").ok K, fun K => (He.Fa.meth "Year" "tell").ok K, fun K => (He.Fa.meth "Year" "back").ok K, fun K => (He.Fa.meth "Year" "warmth").ok K, fun K => (He.Fa.meth "Year" "cold").ok K, fun K => (He.Fa.meth "Year" "warm_sum").ok K, fun K => (He.Fa.meth "Year" "coldest").ok K, fun K => (He.Fa.meth "Year" "told").ok K]
def fx2 : List WA.Fx := [fun K => (He.Fa.meth "Year" "weeks").ok K, fun K => (He.Fa.meth "Year" "copied").ok K, Wk.neB "Year", Wk.nfB "Year", Wk.sbB "Year", Wk.nfC "Year" "Year", Wk.kbB "Year", Wk.kiB "WeekError" "Year" false, Wk.kiB "MissError" "Year" false, Wk.kiB "NoNumber" "Year" false, Wk.kiB "NoSort" "Year" false, Wk.kiB "NoYear" "Year" false, Wk.kiB "NoWeek" "Year" false, Wk.kiB "NotThere" "Year" false, Wk.kiB "Year" "Year" true, Wk.exmB "NoNumber" "NoYear" false, Wk.exmB "NoSort" "NoYear" false, Wk.exmB "NoYear" "NoYear" true, Wk.exmB "NoWeek" "NoYear" false, Wk.exmB "NotThere" "NoYear" false, Wk.exmB "NoNumber" "NoWeek" false, Wk.exmB "NoSort" "NoWeek" false, Wk.exmB "NoYear" "NoWeek" false, Wk.exmB "NoWeek" "NoWeek" true, Wk.exmB "NotThere" "NoWeek" false, Wk.exmB "NoNumber" "NoNumber" true, Wk.exmB "NoSort" "NoNumber" false, Wk.exmB "NoYear" "NoNumber" false, Wk.exmB "NoWeek" "NoNumber" false, Wk.exmB "NotThere" "NoNumber" false, Wk.exmB "NoNumber" "NotThere" false, Wk.exmB "NoSort" "NotThere" false, Wk.exmB "NoYear" "NotThere" false, Wk.exmB "NoWeek" "NotThere" false, Wk.exmB "NotThere" "NotThere" true, Wk.noList, fun K => (K.lookup sysModules).isSome]
def fx : List WA.Fx := fx0 ++ fx1 ++ fx2
abbrev a_NoNumber_init (K : PySem.W.Frag) : Addr := He.fAd K ("NoNumber", some "__init__")
abbrev a_NoSort_init (K : PySem.W.Frag) : Addr := He.fAd K ("NoSort", some "__init__")
abbrev a_NoYear_init (K : PySem.W.Frag) : Addr := He.fAd K ("NoYear", some "__init__")
abbrev a_NoWeek_init (K : PySem.W.Frag) : Addr := He.fAd K ("NoWeek", some "__init__")
abbrev a_NotThere_init (K : PySem.W.Frag) : Addr := He.fAd K ("NotThere", some "__init__")
abbrev a_is_whole (K : PySem.W.Frag) : Addr := He.fAd K ("is_whole", none)
abbrev a_is_warmth (K : PySem.W.Frag) : Addr := He.fAd K ("is_warmth", none)
abbrev a_is_cold (K : PySem.W.Frag) : Addr := He.fAd K ("is_cold", none)
abbrev a_is_pair (K : PySem.W.Frag) : Addr := He.fAd K ("is_pair", none)
abbrev a_Year_init (K : PySem.W.Frag) : Addr := He.fAd K ("Year", some "__init__")
abbrev a_Year_need_week (K : PySem.W.Frag) : Addr := He.fAd K ("Year", some "need_week")
abbrev a_Year_pair (K : PySem.W.Frag) : Addr := He.fAd K ("Year", some "pair")
abbrev a_Year_tell (K : PySem.W.Frag) : Addr := He.fAd K ("Year", some "tell")
abbrev a_Year_back (K : PySem.W.Frag) : Addr := He.fAd K ("Year", some "back")
abbrev a_Year_warmth (K : PySem.W.Frag) : Addr := He.fAd K ("Year", some "warmth")
abbrev a_Year_cold (K : PySem.W.Frag) : Addr := He.fAd K ("Year", some "cold")
abbrev a_Year_warm_sum (K : PySem.W.Frag) : Addr := He.fAd K ("Year", some "warm_sum")
abbrev a_Year_coldest (K : PySem.W.Frag) : Addr := He.fAd K ("Year", some "coldest")
abbrev a_Year_told (K : PySem.W.Frag) : Addr := He.fAd K ("Year", some "told")
abbrev a_Year_weeks (K : PySem.W.Frag) : Addr := He.fAd K ("Year", some "weeks")
abbrev a_l_cell (K : PySem.W.Frag) : Addr := He.fAd K ("_law_cell", none)
abbrev a_l_box (K : PySem.W.Frag) : Addr := He.fAd K ("_law_box", none)
abbrev a_l_take (K : PySem.W.Frag) : Addr := He.fAd K ("_law_take", none)
abbrev a_l_week (K : PySem.W.Frag) : Addr := He.fAd K ("_law_week", none)
abbrev a_l_weeks (K : PySem.W.Frag) : Addr := He.fAd K ("_law_weeks", none)
abbrev a_l_odd (K : PySem.W.Frag) : Addr := He.fAd K ("_law_odd", none)
abbrev a_l_number (K : PySem.W.Frag) : Addr := He.fAd K ("_law_number", none)
abbrev a_l_whole (K : PySem.W.Frag) : Addr := He.fAd K ("_law_whole", none)
abbrev a_l_are_weeks (K : PySem.W.Frag) : Addr := He.fAd K ("_law_are_weeks", none)
abbrev a_l_near (K : PySem.W.Frag) : Addr := He.fAd K ("_law_near", none)
abbrev a_l_made (K : PySem.W.Frag) : Addr := He.fAd K ("_law_made", none)
abbrev a_l_made_right (K : PySem.W.Frag) : Addr := He.fAd K ("_law_made_right", none)
abbrev a_l_due (K : PySem.W.Frag) : Addr := He.fAd K ("_law_due", none)
abbrev a_l_call (K : PySem.W.Frag) : Addr := He.fAd K ("_law_call", none)
abbrev a_l_found (K : PySem.W.Frag) : Addr := He.fAd K ("_law_found", none)
abbrev a_l_refused_right (K : PySem.W.Frag) : Addr := He.fAd K ("_law_refused_right", none)
abbrev a_law (K : PySem.W.Frag) : Addr := He.fAd K ("law", none)
structure Tx (K : PySem.W.Frag) (mg : Str → Option Value) : Prop where
  c : WA.SaysX fx fn K
  h : ∃ h : Heap, K.In h ∧ h.Ns mainGlobals mg
section
variable {K : PySem.W.Frag} {mg : Str → Option Value}
theorem Tx.glo (T : Tx K mg) {x : Str} (i : Nat) (h : fx[i]? = some (fun K => (He.Fa.glo x).ok K) := by rfl) : mg x = some (.ref (He.ga K x)) := let ⟨_, X, G⟩ := T.h; He.glo_ok X G (T.c.fact i h)
theorem Tx.free (T : Tx K mg) {x : Str} (i : Nat) (h : fx[i]? = some (fun K => (He.Fa.free x).ok K) := by rfl) : mg x = none := let ⟨_, X, G⟩ := T.h; He.free_ok X G (T.c.fact i h)
theorem Tx.int (T : Tx K mg) {x : Str} {z : Int} (i : Nat) (h : fx[i]? = some (fun K => (He.Fa.int x z).ok K) := by rfl) : ∃ t, mg x = some (.int z t) := let ⟨_, X, G⟩ := T.h; He.int_ok X G (T.c.fact i h)
theorem Tx.str (T : Tx K mg) {x z : Str} (i : Nat) (h : fx[i]? = some (fun K => (He.Fa.str x z).ok K) := by rfl) : ∃ t, mg x = some (.str z t) := let ⟨_, X, G⟩ := T.h; He.str_ok X G (T.c.fact i h)
theorem Tx.g_is_whole (T : Tx K mg) : mg "is_whole" = some (.ref (a_is_whole K)) := T.glo (x := "is_whole") 1
theorem Tx.g_is_warmth (T : Tx K mg) : mg "is_warmth" = some (.ref (a_is_warmth K)) := T.glo (x := "is_warmth") 2
theorem Tx.g_is_cold (T : Tx K mg) : mg "is_cold" = some (.ref (a_is_cold K)) := T.glo (x := "is_cold") 3
theorem Tx.g_is_pair (T : Tx K mg) : mg "is_pair" = some (.ref (a_is_pair K)) := T.glo (x := "is_pair") 4
theorem Tx.g_l_cell (T : Tx K mg) : mg "_law_cell" = some (.ref (a_l_cell K)) := T.glo (x := "_law_cell") 5
theorem Tx.g_l_box (T : Tx K mg) : mg "_law_box" = some (.ref (a_l_box K)) := T.glo (x := "_law_box") 6
theorem Tx.g_l_take (T : Tx K mg) : mg "_law_take" = some (.ref (a_l_take K)) := T.glo (x := "_law_take") 7
theorem Tx.g_l_week (T : Tx K mg) : mg "_law_week" = some (.ref (a_l_week K)) := T.glo (x := "_law_week") 8
theorem Tx.g_l_weeks (T : Tx K mg) : mg "_law_weeks" = some (.ref (a_l_weeks K)) := T.glo (x := "_law_weeks") 9
theorem Tx.g_l_odd (T : Tx K mg) : mg "_law_odd" = some (.ref (a_l_odd K)) := T.glo (x := "_law_odd") 10
theorem Tx.g_l_number (T : Tx K mg) : mg "_law_number" = some (.ref (a_l_number K)) := T.glo (x := "_law_number") 11
theorem Tx.g_l_whole (T : Tx K mg) : mg "_law_whole" = some (.ref (a_l_whole K)) := T.glo (x := "_law_whole") 12
theorem Tx.g_l_are_weeks (T : Tx K mg) : mg "_law_are_weeks" = some (.ref (a_l_are_weeks K)) := T.glo (x := "_law_are_weeks") 13
theorem Tx.g_l_near (T : Tx K mg) : mg "_law_near" = some (.ref (a_l_near K)) := T.glo (x := "_law_near") 14
theorem Tx.g_l_made (T : Tx K mg) : mg "_law_made" = some (.ref (a_l_made K)) := T.glo (x := "_law_made") 15
theorem Tx.g_l_made_right (T : Tx K mg) : mg "_law_made_right" = some (.ref (a_l_made_right K)) := T.glo (x := "_law_made_right") 16
theorem Tx.g_l_due (T : Tx K mg) : mg "_law_due" = some (.ref (a_l_due K)) := T.glo (x := "_law_due") 17
theorem Tx.g_l_call (T : Tx K mg) : mg "_law_call" = some (.ref (a_l_call K)) := T.glo (x := "_law_call") 18
theorem Tx.g_l_found (T : Tx K mg) : mg "_law_found" = some (.ref (a_l_found K)) := T.glo (x := "_law_found") 19
theorem Tx.g_l_refused_right (T : Tx K mg) : mg "_law_refused_right" = some (.ref (a_l_refused_right K)) := T.glo (x := "_law_refused_right") 20
theorem Tx.g_law (T : Tx K mg) : mg "law" = some (.ref (a_law K)) := T.glo (x := "law") 21
theorem Tx.n_len (T : Tx K mg) : mg "len" = none := T.free (x := "len") 22
theorem Tx.n_isinstance (T : Tx K mg) : mg "isinstance" = none := T.free (x := "isinstance") 23
theorem Tx.n_repr (T : Tx K mg) : mg "repr" = none := T.free (x := "repr") 24
theorem Tx.n_range (T : Tx K mg) : mg "range" = none := T.free (x := "range") 25
theorem Tx.n_max (T : Tx K mg) : mg "max" = none := T.free (x := "max") 26
theorem Tx.n_min (T : Tx K mg) : mg "min" = none := T.free (x := "min") 27
theorem Tx.n_all (T : Tx K mg) : mg "all" = none := T.free (x := "all") 28
theorem Tx.n_sum (T : Tx K mg) : mg "sum" = none := T.free (x := "sum") 29
theorem Tx.n_sorted (T : Tx K mg) : mg "sorted" = none := T.free (x := "sorted") 30
theorem Tx.n_int (T : Tx K mg) : mg "int" = none := T.free (x := "int") 31
theorem Tx.n_list (T : Tx K mg) : mg "list" = none := T.free (x := "list") 32
theorem Tx.n_tuple (T : Tx K mg) : mg "tuple" = none := T.free (x := "tuple") 33
theorem Tx.n_dict (T : Tx K mg) : mg "dict" = none := T.free (x := "dict") 34
theorem Tx.n_bool (T : Tx K mg) : mg "bool" = none := T.free (x := "bool") 35
theorem Tx.c_MOST_WEEKS (T : Tx K mg) : ∃ t, mg "MOST_WEEKS" = some (.int 52 t) := T.int (x := "MOST_WEEKS") (z := 52) 38
theorem Tx.c_MOST_WARMTH (T : Tx K mg) : ∃ t, mg "MOST_WARMTH" = some (.int 400 t) := T.int (x := "MOST_WARMTH") (z := 400) 39
theorem Tx.c_MOST_COLD (T : Tx K mg) : ∃ t, mg "MOST_COLD" = some (.int 60 t) := T.int (x := "MOST_COLD") (z := 60) 40
theorem Tx.y_WeekError (T : Tx K mg) : ExB K mg "WeekError" (He.ga K "WeekError") := let ⟨_, X, G⟩ := T.h; exb_ok X G (T.c.fact 41 (f := fun K => (He.Fa.glo "WeekError").ok K)) (T.c.fact 43)
theorem Tx.y_MissError (T : Tx K mg) : LE.ExB K mg "MissError" (He.ga K "MissError") := let ⟨_, X, G⟩ := T.h; LE.exb_ok X G (T.c.fact 44 (f := fun K => (He.Fa.glo "MissError").ok K)) (T.c.fact 46)
theorem Tx.g_NoNumber (T : Tx K mg) : mg "NoNumber" = some (.ref (He.ga K "NoNumber")) := T.glo (x := "NoNumber") 47
theorem Tx.x_NoNumber (T : Tx K mg) : ExK K mg "NoNumber" (He.ga K "NoNumber") (a_NoNumber_init K) := let ⟨_, X, G⟩ := T.h; exk_ok X G (T.c.fact 47 (f := fun K => (He.Fa.glo "NoNumber").ok K)) (T.c.fact 49)
theorem Tx.six_NoSort (T : Tx K mg) : Six K (He.ga K "NoSort") := six_ok (T.c.fact 51)
theorem Tx.x_NoSort (T : Tx K mg) : ExK K mg "NoSort" (He.ga K "NoSort") (a_NoSort_init K) := let ⟨_, X, G⟩ := T.h; exk_ok X G (T.c.fact 50 (f := fun K => (He.Fa.glo "NoSort").ok K)) (T.c.fact 52)
theorem Tx.q_NoSort (T : Tx K mg) : ExQ K (He.ga K "NoSort") := exq_ok2 T.x_NoSort (T.c.fact 53 (f := Wk.exqB "NoSort"))
theorem Tx.g_NoYear (T : Tx K mg) : mg "NoYear" = some (.ref (He.ga K "NoYear")) := T.glo (x := "NoYear") 54
theorem Tx.x_NoYear (T : Tx K mg) : ExK K mg "NoYear" (He.ga K "NoYear") (a_NoYear_init K) := let ⟨_, X, G⟩ := T.h; exk_ok X G (T.c.fact 54 (f := fun K => (He.Fa.glo "NoYear").ok K)) (T.c.fact 56)
theorem Tx.g_NoWeek (T : Tx K mg) : mg "NoWeek" = some (.ref (He.ga K "NoWeek")) := T.glo (x := "NoWeek") 57
theorem Tx.x_NoWeek (T : Tx K mg) : ExK K mg "NoWeek" (He.ga K "NoWeek") (a_NoWeek_init K) := let ⟨_, X, G⟩ := T.h; exk_ok X G (T.c.fact 57 (f := fun K => (He.Fa.glo "NoWeek").ok K)) (T.c.fact 59)
theorem Tx.g_NotThere (T : Tx K mg) : mg "NotThere" = some (.ref (He.ga K "NotThere")) := T.glo (x := "NotThere") 60
theorem Tx.x_NotThere (T : Tx K mg) : LE.ExK K mg "NotThere" (He.ga K "NotThere") (a_NotThere_init K) := let ⟨_, X, G⟩ := T.h; LE.exk_ok X G (T.c.fact 60 (f := fun K => (He.Fa.glo "NotThere").ok K)) (T.c.fact 62)
theorem Tx.g_Year (T : Tx K mg) : mg "Year" = some (.ref (He.ga K "Year")) := T.glo (x := "Year") 63
theorem Tx.cl_Year (T : Tx K mg) : Cls K (He.ga K "Year") := He.cls_ok (T.c.fact 65 (f := fun K => (He.Fa.cls "Year").ok K))
theorem Tx.mk_Year (T : Tx K mg) : Mk K (He.ga K "Year") (a_Year_init K) := He.mkr_ok (T.c.fact 66 (f := fun K => (He.Fa.mkr "Year").ok K))
theorem Tx.pc_Year (T : Tx K mg) : PC K (He.ga K "Year") ["kept_normal", "kept_told"] := pc_ok T.cl_Year (T.c.fact 68)
theorem Tx.m_Year_need_week (T : Tx K mg) : Meth K (He.ga K "Year") "need_week" (a_Year_need_week K) := He.meth_ok (T.c.fact 71 (f := fun K => (He.Fa.meth "Year" "need_week").ok K))
theorem Tx.m_Year_pair (T : Tx K mg) : Meth K (He.ga K "Year") "pair" (a_Year_pair K) := He.meth_ok (T.c.fact 72 (f := fun K => (He.Fa.meth "Year" "pair").ok K))
theorem Tx.m_Year_tell (T : Tx K mg) : Meth K (He.ga K "Year") "tell" (a_Year_tell K) := He.meth_ok (T.c.fact 73 (f := fun K => (He.Fa.meth "Year" "tell").ok K))
theorem Tx.m_Year_back (T : Tx K mg) : Meth K (He.ga K "Year") "back" (a_Year_back K) := He.meth_ok (T.c.fact 74 (f := fun K => (He.Fa.meth "Year" "back").ok K))
theorem Tx.m_Year_warmth (T : Tx K mg) : Meth K (He.ga K "Year") "warmth" (a_Year_warmth K) := He.meth_ok (T.c.fact 75 (f := fun K => (He.Fa.meth "Year" "warmth").ok K))
theorem Tx.m_Year_cold (T : Tx K mg) : Meth K (He.ga K "Year") "cold" (a_Year_cold K) := He.meth_ok (T.c.fact 76 (f := fun K => (He.Fa.meth "Year" "cold").ok K))
theorem Tx.m_Year_warm_sum (T : Tx K mg) : Meth K (He.ga K "Year") "warm_sum" (a_Year_warm_sum K) := He.meth_ok (T.c.fact 77 (f := fun K => (He.Fa.meth "Year" "warm_sum").ok K))
theorem Tx.m_Year_coldest (T : Tx K mg) : Meth K (He.ga K "Year") "coldest" (a_Year_coldest K) := He.meth_ok (T.c.fact 78 (f := fun K => (He.Fa.meth "Year" "coldest").ok K))
theorem Tx.m_Year_told (T : Tx K mg) : Meth K (He.ga K "Year") "told" (a_Year_told K) := He.meth_ok (T.c.fact 79 (f := fun K => (He.Fa.meth "Year" "told").ok K))
theorem Tx.m_Year_weeks (T : Tx K mg) : Meth K (He.ga K "Year") "weeks" (a_Year_weeks K) := He.meth_ok (T.c.fact 80 (f := fun K => (He.Fa.meth "Year" "weeks").ok K))
theorem Tx.ex_NoYear_NoYear (T : Tx K mg) : PySem.W.exmOne K (.ref (He.ga K "NoYear")) (.ref (He.ga K "NoYear")) = some true := of_decide_eq_true (T.c.fact 97 (f := Wk.exmB "NoYear" "NoYear" true))
theorem Tx.ex_NoNumber_NoWeek (T : Tx K mg) : PySem.W.exmOne K (.ref (He.ga K "NoNumber")) (.ref (He.ga K "NoWeek")) = some false := of_decide_eq_true (T.c.fact 100 (f := Wk.exmB "NoNumber" "NoWeek" false))
theorem Tx.ex_NoWeek_NoWeek (T : Tx K mg) : PySem.W.exmOne K (.ref (He.ga K "NoWeek")) (.ref (He.ga K "NoWeek")) = some true := of_decide_eq_true (T.c.fact 103 (f := Wk.exmB "NoWeek" "NoWeek" true))
theorem Tx.ex_NotThere_NoWeek (T : Tx K mg) : PySem.W.exmOne K (.ref (He.ga K "NotThere")) (.ref (He.ga K "NoWeek")) = some false := of_decide_eq_true (T.c.fact 104 (f := Wk.exmB "NotThere" "NoWeek" false))
theorem Tx.ex_NoNumber_NoNumber (T : Tx K mg) : PySem.W.exmOne K (.ref (He.ga K "NoNumber")) (.ref (He.ga K "NoNumber")) = some true := of_decide_eq_true (T.c.fact 105 (f := Wk.exmB "NoNumber" "NoNumber" true))
theorem Tx.ex_NotThere_NoNumber (T : Tx K mg) : PySem.W.exmOne K (.ref (He.ga K "NotThere")) (.ref (He.ga K "NoNumber")) = some false := of_decide_eq_true (T.c.fact 109 (f := Wk.exmB "NotThere" "NoNumber" false))
theorem Tx.ex_NotThere_NotThere (T : Tx K mg) : PySem.W.exmOne K (.ref (He.ga K "NotThere")) (.ref (He.ga K "NotThere")) = some true := of_decide_eq_true (T.c.fact 114 (f := Wk.exmB "NotThere" "NotThere" true))
theorem Tx.nol (T : Tx K mg) : noList K = true := T.c.fact 115
theorem Tx.sys (T : Tx K mg) : HasSys K := Option.isSome_iff_exists.mp (T.c.fact 116)
theorem Tx.f_NoNumber_init (T : Tx K mg) : FD K "__init__" "NoNumber.__init__" s_NoNumber_init [] (a_NoNumber_init K) := let ⟨_, F⟩ := T.c.def_ 1 (d := d_NoNumber_init); fd_of F
theorem Tx.b_NoNumber_init (T : Tx K mg) : Binds K (fdOf K (a_NoNumber_init K)) ["self", "found"] [] := FunD.bindsN T.f_NoNumber_init fun _ _ _ _ _ _ us hl => match us, hl with | [_, _], _ => rfl
theorem Tx.f_NoSort_init (T : Tx K mg) : FD K "__init__" "NoSort.__init__" s_NoSort_init [] (a_NoSort_init K) := let ⟨_, F⟩ := T.c.def_ 2 (d := d_NoSort_init); fd_of F
theorem Tx.b_NoSort_init (T : Tx K mg) : Binds K (fdOf K (a_NoSort_init K)) ["self", "found"] [] := FunD.bindsN T.f_NoSort_init fun _ _ _ _ _ _ us hl => match us, hl with | [_, _], _ => rfl
theorem Tx.f_NoYear_init (T : Tx K mg) : FD K "__init__" "NoYear.__init__" s_NoYear_init [] (a_NoYear_init K) := let ⟨_, F⟩ := T.c.def_ 3 (d := d_NoYear_init); fd_of F
theorem Tx.b_NoYear_init (T : Tx K mg) : Binds K (fdOf K (a_NoYear_init K)) ["self", "found"] [] := FunD.bindsN T.f_NoYear_init fun _ _ _ _ _ _ us hl => match us, hl with | [_, _], _ => rfl
theorem Tx.f_NoWeek_init (T : Tx K mg) : FD K "__init__" "NoWeek.__init__" s_NoWeek_init [] (a_NoWeek_init K) := let ⟨_, F⟩ := T.c.def_ 4 (d := d_NoWeek_init); fd_of F
theorem Tx.b_NoWeek_init (T : Tx K mg) : Binds K (fdOf K (a_NoWeek_init K)) ["self", "found"] [] := FunD.bindsN T.f_NoWeek_init fun _ _ _ _ _ _ us hl => match us, hl with | [_, _], _ => rfl
theorem Tx.f_NotThere_init (T : Tx K mg) : FD K "__init__" "NotThere.__init__" s_NotThere_init [] (a_NotThere_init K) := let ⟨_, F⟩ := T.c.def_ 5 (d := d_NotThere_init); fd_of F
theorem Tx.b_NotThere_init (T : Tx K mg) : Binds K (fdOf K (a_NotThere_init K)) ["self", "found"] [] := FunD.bindsN T.f_NotThere_init fun _ _ _ _ _ _ us hl => match us, hl with | [_, _], _ => rfl
theorem Tx.f_is_whole (T : Tx K mg) : FD K "is_whole" "is_whole" s_is_whole [] (a_is_whole K) := let ⟨_, F⟩ := T.c.def_ 6 (d := d_is_whole); fd_of F
theorem Tx.k_is_whole (T : Tx K mg) : PySem.W.keepIn K (.ref (a_is_whole K)) = true := T.f_is_whole.kp
theorem Tx.b_is_whole (T : Tx K mg) : Binds K (fdOf K (a_is_whole K)) ["thing", "low", "high"] [] := FunD.bindsN T.f_is_whole fun _ _ _ _ _ _ us hl => match us, hl with | [_, _, _], _ => rfl
theorem Tx.f_is_warmth (T : Tx K mg) : FD K "is_warmth" "is_warmth" s_is_warmth [] (a_is_warmth K) := let ⟨_, F⟩ := T.c.def_ 7 (d := d_is_warmth); fd_of F
theorem Tx.k_is_warmth (T : Tx K mg) : PySem.W.keepIn K (.ref (a_is_warmth K)) = true := T.f_is_warmth.kp
theorem Tx.b_is_warmth (T : Tx K mg) : Binds K (fdOf K (a_is_warmth K)) ["thing"] [] := FunD.bindsN T.f_is_warmth fun _ _ _ _ _ _ us hl => match us, hl with | [_], _ => rfl
theorem Tx.f_is_cold (T : Tx K mg) : FD K "is_cold" "is_cold" s_is_cold [] (a_is_cold K) := let ⟨_, F⟩ := T.c.def_ 8 (d := d_is_cold); fd_of F
theorem Tx.k_is_cold (T : Tx K mg) : PySem.W.keepIn K (.ref (a_is_cold K)) = true := T.f_is_cold.kp
theorem Tx.b_is_cold (T : Tx K mg) : Binds K (fdOf K (a_is_cold K)) ["thing"] [] := FunD.bindsN T.f_is_cold fun _ _ _ _ _ _ us hl => match us, hl with | [_], _ => rfl
theorem Tx.f_is_pair (T : Tx K mg) : FD K "is_pair" "is_pair" s_is_pair [] (a_is_pair K) := let ⟨_, F⟩ := T.c.def_ 9 (d := d_is_pair); fd_of F
theorem Tx.k_is_pair (T : Tx K mg) : PySem.W.keepIn K (.ref (a_is_pair K)) = true := T.f_is_pair.kp
theorem Tx.b_is_pair (T : Tx K mg) : Binds K (fdOf K (a_is_pair K)) ["thing"] [] := FunD.bindsN T.f_is_pair fun _ _ _ _ _ _ us hl => match us, hl with | [_], _ => rfl
theorem Tx.f_Year_init (T : Tx K mg) : FD K "__init__" "Year.__init__" s_Year_init [] (a_Year_init K) := let ⟨_, F⟩ := T.c.def_ 10 (d := d_Year_init); fd_of F
theorem Tx.f_Year_need_week (T : Tx K mg) : FD K "need_week" "Year.need_week" s_Year_need_week [] (a_Year_need_week K) := let ⟨_, F⟩ := T.c.def_ 13 (d := d_Year_need_week); fd_of F
theorem Tx.b_Year_need_week (T : Tx K mg) : Binds K (fdOf K (a_Year_need_week K)) ["self", "week"] [] := FunD.bindsN T.f_Year_need_week fun _ _ _ _ _ _ us hl => match us, hl with | [_, _], _ => rfl
theorem Tx.f_Year_pair (T : Tx K mg) : FD K "pair" "Year.pair" s_Year_pair [] (a_Year_pair K) := let ⟨_, F⟩ := T.c.def_ 14 (d := d_Year_pair); fd_of F
theorem Tx.b_Year_pair (T : Tx K mg) : Binds K (fdOf K (a_Year_pair K)) ["self", "week"] [] := FunD.bindsN T.f_Year_pair fun _ _ _ _ _ _ us hl => match us, hl with | [_, _], _ => rfl
theorem Tx.f_Year_tell (T : Tx K mg) : FD K "tell" "Year.tell" s_Year_tell [V.non] (a_Year_tell K) := let ⟨_, F⟩ := T.c.def_ 15 (d := d_Year_tell); fd_of F
theorem Tx.f_Year_back (T : Tx K mg) : FD K "back" "Year.back" s_Year_back [] (a_Year_back K) := let ⟨_, F⟩ := T.c.def_ 16 (d := d_Year_back); fd_of F
theorem Tx.b_Year_back (T : Tx K mg) : Binds K (fdOf K (a_Year_back K)) ["self", "week"] [] := FunD.bindsN T.f_Year_back fun _ _ _ _ _ _ us hl => match us, hl with | [_, _], _ => rfl
theorem Tx.f_Year_warmth (T : Tx K mg) : FD K "warmth" "Year.warmth" s_Year_warmth [] (a_Year_warmth K) := let ⟨_, F⟩ := T.c.def_ 17 (d := d_Year_warmth); fd_of F
theorem Tx.b_Year_warmth (T : Tx K mg) : Binds K (fdOf K (a_Year_warmth K)) ["self", "week"] [] := FunD.bindsN T.f_Year_warmth fun _ _ _ _ _ _ us hl => match us, hl with | [_, _], _ => rfl
theorem Tx.f_Year_cold (T : Tx K mg) : FD K "cold" "Year.cold" s_Year_cold [] (a_Year_cold K) := let ⟨_, F⟩ := T.c.def_ 18 (d := d_Year_cold); fd_of F
theorem Tx.b_Year_cold (T : Tx K mg) : Binds K (fdOf K (a_Year_cold K)) ["self", "week"] [] := FunD.bindsN T.f_Year_cold fun _ _ _ _ _ _ us hl => match us, hl with | [_, _], _ => rfl
theorem Tx.f_Year_warm_sum (T : Tx K mg) : FD K "warm_sum" "Year.warm_sum" s_Year_warm_sum [] (a_Year_warm_sum K) := let ⟨_, F⟩ := T.c.def_ 19 (d := d_Year_warm_sum); fd_of F
theorem Tx.b_Year_warm_sum (T : Tx K mg) : Binds K (fdOf K (a_Year_warm_sum K)) ["self", "first", "last"] [] := FunD.bindsN T.f_Year_warm_sum fun _ _ _ _ _ _ us hl => match us, hl with | [_, _, _], _ => rfl
theorem Tx.f_Year_coldest (T : Tx K mg) : FD K "coldest" "Year.coldest" s_Year_coldest [] (a_Year_coldest K) := let ⟨_, F⟩ := T.c.def_ 20 (d := d_Year_coldest); fd_of F
theorem Tx.b_Year_coldest (T : Tx K mg) : Binds K (fdOf K (a_Year_coldest K)) ["self", "first", "last"] [] := FunD.bindsN T.f_Year_coldest fun _ _ _ _ _ _ us hl => match us, hl with | [_, _, _], _ => rfl
theorem Tx.f_Year_told (T : Tx K mg) : FD K "told" "Year.told" s_Year_told [] (a_Year_told K) := let ⟨_, F⟩ := T.c.def_ 21 (d := d_Year_told); fd_of F
theorem Tx.b_Year_told (T : Tx K mg) : Binds K (fdOf K (a_Year_told K)) ["self"] [] := FunD.bindsN T.f_Year_told fun _ _ _ _ _ _ us hl => match us, hl with | [_], _ => rfl
theorem Tx.f_Year_weeks (T : Tx K mg) : FD K "weeks" "Year.weeks" s_Year_weeks [] (a_Year_weeks K) := let ⟨_, F⟩ := T.c.def_ 22 (d := d_Year_weeks); fd_of F
theorem Tx.b_Year_weeks (T : Tx K mg) : Binds K (fdOf K (a_Year_weeks K)) ["self"] [] := FunD.bindsN T.f_Year_weeks fun _ _ _ _ _ _ us hl => match us, hl with | [_], _ => rfl
theorem Tx.f_l_cell (T : Tx K mg) : FD K "_law_cell" "_law_cell" s_l_cell [] (a_l_cell K) := let ⟨_, F⟩ := T.c.def_ 24 (d := d_l_cell); fd_of F
theorem Tx.k_l_cell (T : Tx K mg) : PySem.W.keepIn K (.ref (a_l_cell K)) = true := T.f_l_cell.kp
theorem Tx.b_l_cell (T : Tx K mg) : Binds K (fdOf K (a_l_cell K)) ["script", "k"] [] := FunD.bindsN T.f_l_cell fun _ _ _ _ _ _ us hl => match us, hl with | [_, _], _ => rfl
theorem Tx.f_l_box (T : Tx K mg) : FD K "_law_box" "_law_box" s_l_box [] (a_l_box K) := let ⟨_, F⟩ := T.c.def_ 25 (d := d_l_box); fd_of F
theorem Tx.k_l_box (T : Tx K mg) : PySem.W.keepIn K (.ref (a_l_box K)) = true := T.f_l_box.kp
theorem Tx.b_l_box (T : Tx K mg) : Binds K (fdOf K (a_l_box K)) ["cell"] [] := FunD.bindsN T.f_l_box fun _ _ _ _ _ _ us hl => match us, hl with | [_], _ => rfl
theorem Tx.f_l_take (T : Tx K mg) : FD K "_law_take" "_law_take" s_l_take [] (a_l_take K) := let ⟨_, F⟩ := T.c.def_ 26 (d := d_l_take); fd_of F
theorem Tx.k_l_take (T : Tx K mg) : PySem.W.keepIn K (.ref (a_l_take K)) = true := T.f_l_take.kp
theorem Tx.b_l_take (T : Tx K mg) : Binds K (fdOf K (a_l_take K)) ["box", "many"] [] := FunD.bindsN T.f_l_take fun _ _ _ _ _ _ us hl => match us, hl with | [_, _], _ => rfl
theorem Tx.f_l_week (T : Tx K mg) : FD K "_law_week" "_law_week" s_l_week [] (a_l_week K) := let ⟨_, F⟩ := T.c.def_ 27 (d := d_l_week); fd_of F
theorem Tx.k_l_week (T : Tx K mg) : PySem.W.keepIn K (.ref (a_l_week K)) = true := T.f_l_week.kp
theorem Tx.b_l_week (T : Tx K mg) : Binds K (fdOf K (a_l_week K)) ["box"] [] := FunD.bindsN T.f_l_week fun _ _ _ _ _ _ us hl => match us, hl with | [_], _ => rfl
theorem Tx.f_l_weeks (T : Tx K mg) : FD K "_law_weeks" "_law_weeks" s_l_weeks [] (a_l_weeks K) := let ⟨_, F⟩ := T.c.def_ 28 (d := d_l_weeks); fd_of F
theorem Tx.k_l_weeks (T : Tx K mg) : PySem.W.keepIn K (.ref (a_l_weeks K)) = true := T.f_l_weeks.kp
theorem Tx.b_l_weeks (T : Tx K mg) : Binds K (fdOf K (a_l_weeks K)) ["box"] [] := FunD.bindsN T.f_l_weeks fun _ _ _ _ _ _ us hl => match us, hl with | [_], _ => rfl
theorem Tx.f_l_odd (T : Tx K mg) : FD K "_law_odd" "_law_odd" s_l_odd [] (a_l_odd K) := let ⟨_, F⟩ := T.c.def_ 29 (d := d_l_odd); fd_of F
theorem Tx.k_l_odd (T : Tx K mg) : PySem.W.keepIn K (.ref (a_l_odd K)) = true := T.f_l_odd.kp
theorem Tx.b_l_odd (T : Tx K mg) : Binds K (fdOf K (a_l_odd K)) ["box"] [] := FunD.bindsN T.f_l_odd fun _ _ _ _ _ _ us hl => match us, hl with | [_], _ => rfl
theorem Tx.f_l_number (T : Tx K mg) : FD K "_law_number" "_law_number" s_l_number [] (a_l_number K) := let ⟨_, F⟩ := T.c.def_ 30 (d := d_l_number); fd_of F
theorem Tx.k_l_number (T : Tx K mg) : PySem.W.keepIn K (.ref (a_l_number K)) = true := T.f_l_number.kp
theorem Tx.b_l_number (T : Tx K mg) : Binds K (fdOf K (a_l_number K)) ["box", "low", "high"] [] := FunD.bindsN T.f_l_number fun _ _ _ _ _ _ us hl => match us, hl with | [_, _, _], _ => rfl
theorem Tx.f_l_whole (T : Tx K mg) : FD K "_law_whole" "_law_whole" s_l_whole [] (a_l_whole K) := let ⟨_, F⟩ := T.c.def_ 31 (d := d_l_whole); fd_of F
theorem Tx.k_l_whole (T : Tx K mg) : PySem.W.keepIn K (.ref (a_l_whole K)) = true := T.f_l_whole.kp
theorem Tx.b_l_whole (T : Tx K mg) : Binds K (fdOf K (a_l_whole K)) ["thing", "low", "high"] [] := FunD.bindsN T.f_l_whole fun _ _ _ _ _ _ us hl => match us, hl with | [_, _, _], _ => rfl
theorem Tx.f_l_are_weeks (T : Tx K mg) : FD K "_law_are_weeks" "_law_are_weeks" s_l_are_weeks [] (a_l_are_weeks K) := let ⟨_, F⟩ := T.c.def_ 32 (d := d_l_are_weeks); fd_of F
theorem Tx.k_l_are_weeks (T : Tx K mg) : PySem.W.keepIn K (.ref (a_l_are_weeks K)) = true := T.f_l_are_weeks.kp
theorem Tx.b_l_are_weeks (T : Tx K mg) : Binds K (fdOf K (a_l_are_weeks K)) ["thing"] [] := FunD.bindsN T.f_l_are_weeks fun _ _ _ _ _ _ us hl => match us, hl with | [_], _ => rfl
theorem Tx.f_l_near (T : Tx K mg) : FD K "_law_near" "_law_near" s_l_near [] (a_l_near K) := let ⟨_, F⟩ := T.c.def_ 33 (d := d_l_near); fd_of F
theorem Tx.k_l_near (T : Tx K mg) : PySem.W.keepIn K (.ref (a_l_near K)) = true := T.f_l_near.kp
theorem Tx.b_l_near (T : Tx K mg) : Binds K (fdOf K (a_l_near K)) ["box", "weeks"] [] := FunD.bindsN T.f_l_near fun _ _ _ _ _ _ us hl => match us, hl with | [_, _], _ => rfl
theorem Tx.f_l_made (T : Tx K mg) : FD K "_law_made" "_law_made" s_l_made [] (a_l_made K) := let ⟨_, F⟩ := T.c.def_ 34 (d := d_l_made); fd_of F
theorem Tx.k_l_made (T : Tx K mg) : PySem.W.keepIn K (.ref (a_l_made K)) = true := T.f_l_made.kp
theorem Tx.b_l_made (T : Tx K mg) : Binds K (fdOf K (a_l_made K)) ["thing"] [] := FunD.bindsN T.f_l_made fun _ _ _ _ _ _ us hl => match us, hl with | [_], _ => rfl
theorem Tx.f_l_made_right (T : Tx K mg) : FD K "_law_made_right" "_law_made_right" s_l_made_right [] (a_l_made_right K) := let ⟨_, F⟩ := T.c.def_ 35 (d := d_l_made_right); fd_of F
theorem Tx.k_l_made_right (T : Tx K mg) : PySem.W.keepIn K (.ref (a_l_made_right K)) = true := T.f_l_made_right.kp
theorem Tx.b_l_made_right (T : Tx K mg) : Binds K (fdOf K (a_l_made_right K)) ["thing"] [] := FunD.bindsN T.f_l_made_right fun _ _ _ _ _ _ us hl => match us, hl with | [_], _ => rfl
theorem Tx.f_l_due (T : Tx K mg) : FD K "_law_due" "_law_due" s_l_due [] (a_l_due K) := let ⟨_, F⟩ := T.c.def_ 36 (d := d_l_due); fd_of F
theorem Tx.k_l_due (T : Tx K mg) : PySem.W.keepIn K (.ref (a_l_due K)) = true := T.f_l_due.kp
theorem Tx.b_l_due (T : Tx K mg) : Binds K (fdOf K (a_l_due K)) ["many", "told", "way", "things"] [] := FunD.bindsN T.f_l_due fun _ _ _ _ _ _ us hl => match us, hl with | [_, _, _, _], _ => rfl
theorem Tx.f_l_call (T : Tx K mg) : FD K "_law_call" "_law_call" s_l_call [] (a_l_call K) := let ⟨_, F⟩ := T.c.def_ 37 (d := d_l_call); fd_of F
theorem Tx.k_l_call (T : Tx K mg) : PySem.W.keepIn K (.ref (a_l_call K)) = true := T.f_l_call.kp
theorem Tx.b_l_call (T : Tx K mg) : Binds K (fdOf K (a_l_call K)) ["year", "way", "things"] [] := FunD.bindsN T.f_l_call fun _ _ _ _ _ _ us hl => match us, hl with | [_, _, _], _ => rfl
theorem Tx.f_l_found (T : Tx K mg) : FD K "_law_found" "_law_found" s_l_found [] (a_l_found K) := let ⟨_, F⟩ := T.c.def_ 38 (d := d_l_found); fd_of F
theorem Tx.k_l_found (T : Tx K mg) : PySem.W.keepIn K (.ref (a_l_found K)) = true := T.f_l_found.kp
theorem Tx.b_l_found (T : Tx K mg) : Binds K (fdOf K (a_l_found K)) ["year", "way", "things"] [] := FunD.bindsN T.f_l_found fun _ _ _ _ _ _ us hl => match us, hl with | [_, _, _], _ => rfl
theorem Tx.f_l_refused_right (T : Tx K mg) : FD K "_law_refused_right" "_law_refused_right" s_l_refused_right [] (a_l_refused_right K) := let ⟨_, F⟩ := T.c.def_ 39 (d := d_l_refused_right); fd_of F
theorem Tx.k_l_refused_right (T : Tx K mg) : PySem.W.keepIn K (.ref (a_l_refused_right K)) = true := T.f_l_refused_right.kp
theorem Tx.b_l_refused_right (T : Tx K mg) : Binds K (fdOf K (a_l_refused_right K)) ["box", "year", "many", "told"] [] := FunD.bindsN T.f_l_refused_right fun _ _ _ _ _ _ us hl => match us, hl with | [_, _, _, _], _ => rfl
theorem Tx.f_law (T : Tx K mg) : FD K "law" "law" s_law [] (a_law K) := let ⟨_, F⟩ := T.c.def_ 40 (d := d_law); fd_of F
theorem Tx.kb_Year_init_2 (T : Tx K mg) : KB K (fdOf K (a_Year_init K)) ["self", "normal"] 2 [] (fun vs zs => gI [0, 1] (vs ++ zs)) := kb_n T.f_Year_init (fun vs zs => gI [0, 1] (vs ++ zs)) (fun r1 r2 => vals_gI (Vals.append r1 r2) _) fun _ _ _ _ _ _ us ws l1 l2 => match us, ws, l1, l2 with | [_, _], [], _, _ => rfl
theorem Tx.kb_Year_tell_4 (T : Tx K mg) : KB K (fdOf K (a_Year_tell K)) ["self", "week", "warmth", "cold"] 4 [] (fun vs zs => gI [0, 1, 2, 3] (vs ++ zs ++ [V.non])) := kb_d T.f_Year_tell (by simp) (fun vs ds zs => gI [0, 1, 2, 3] (vs ++ zs ++ ds)) (fun r1 r2 r3 => vals_gI (Vals.append (Vals.append r1 r3) r2) _) fun _ _ _ _ _ _ _ us its ws l1 l2 l3 => match us, its, ws, l1, l2, l3 with | [_, _, _, _], [_], [], _, _, _ => ⟨_, rfl, rfl⟩
end
theorem sc_NoNumber_init : FnScope ["self", "found"] ["self", "found"] (defScope s_NoNumber_init) := ⟨rfl, rfl, rfl, by decide +kernel, rfl, by decide +kernel, by decide +kernel⟩
theorem sc_NoSort_init : FnScope ["self", "found"] ["self", "found"] (defScope s_NoSort_init) := ⟨rfl, rfl, rfl, by decide +kernel, rfl, by decide +kernel, by decide +kernel⟩
theorem sc_NoYear_init : FnScope ["self", "found"] ["self", "found"] (defScope s_NoYear_init) := ⟨rfl, rfl, rfl, by decide +kernel, rfl, by decide +kernel, by decide +kernel⟩
theorem sc_NoWeek_init : FnScope ["self", "found"] ["self", "found"] (defScope s_NoWeek_init) := ⟨rfl, rfl, rfl, by decide +kernel, rfl, by decide +kernel, by decide +kernel⟩
theorem sc_NotThere_init : FnScope ["self", "found"] ["self", "found"] (defScope s_NotThere_init) := ⟨rfl, rfl, rfl, by decide +kernel, rfl, by decide +kernel, by decide +kernel⟩
theorem sc_is_whole : FnScope ["thing", "low", "high"] ["thing", "low", "high"] (defScope s_is_whole) := ⟨rfl, rfl, rfl, by decide +kernel, rfl, by decide +kernel, by decide +kernel⟩
theorem sc_is_warmth : FnScope ["thing"] ["thing"] (defScope s_is_warmth) := ⟨rfl, rfl, rfl, by decide +kernel, rfl, by decide +kernel, by decide +kernel⟩
theorem sc_is_cold : FnScope ["thing"] ["thing"] (defScope s_is_cold) := ⟨rfl, rfl, rfl, by decide +kernel, rfl, by decide +kernel, by decide +kernel⟩
theorem sc_is_pair : FnScope ["thing"] ["thing"] (defScope s_is_pair) := ⟨rfl, rfl, rfl, by decide +kernel, rfl, by decide +kernel, by decide +kernel⟩
theorem sc_Year_init : FnScope ["self", "normal", "thing"] ["self", "normal"] (defScope s_Year_init) := ⟨rfl, rfl, rfl, by decide +kernel, rfl, by decide +kernel, by decide +kernel⟩
theorem sc_Year_need_week : FnScope ["self", "week"] ["self", "week"] (defScope s_Year_need_week) := ⟨rfl, rfl, rfl, by decide +kernel, rfl, by decide +kernel, by decide +kernel⟩
theorem sc_Year_pair : FnScope ["self", "week"] ["self", "week"] (defScope s_Year_pair) := ⟨rfl, rfl, rfl, by decide +kernel, rfl, by decide +kernel, by decide +kernel⟩
theorem sc_Year_tell : FnScope ["self", "week", "warmth", "cold"] ["self", "week", "warmth", "cold"] (defScope s_Year_tell) := ⟨rfl, rfl, rfl, by decide +kernel, rfl, by decide +kernel, by decide +kernel⟩
theorem sc_Year_back : FnScope ["self", "week"] ["self", "week"] (defScope s_Year_back) := ⟨rfl, rfl, rfl, by decide +kernel, rfl, by decide +kernel, by decide +kernel⟩
theorem sc_Year_warmth : FnScope ["self", "week"] ["self", "week"] (defScope s_Year_warmth) := ⟨rfl, rfl, rfl, by decide +kernel, rfl, by decide +kernel, by decide +kernel⟩
theorem sc_Year_cold : FnScope ["self", "week"] ["self", "week"] (defScope s_Year_cold) := ⟨rfl, rfl, rfl, by decide +kernel, rfl, by decide +kernel, by decide +kernel⟩
theorem sc_Year_warm_sum : FnScope ["self", "first", "last", "week"] ["self", "first", "last"] (defScope s_Year_warm_sum) := ⟨rfl, rfl, rfl, by decide +kernel, rfl, by decide +kernel, by decide +kernel⟩
theorem sc_Year_coldest : FnScope ["self", "first", "last", "week"] ["self", "first", "last"] (defScope s_Year_coldest) := ⟨rfl, rfl, rfl, by decide +kernel, rfl, by decide +kernel, by decide +kernel⟩
theorem sc_Year_told : FnScope ["self", "week"] ["self"] (defScope s_Year_told) := ⟨rfl, rfl, rfl, by decide +kernel, rfl, by decide +kernel, by decide +kernel⟩
theorem sc_Year_weeks : FnScope ["self", "week"] ["self"] (defScope s_Year_weeks) := ⟨rfl, rfl, rfl, by decide +kernel, rfl, by decide +kernel, by decide +kernel⟩
theorem sc_l_cell : FnScope ["script", "k"] ["script", "k"] (defScope s_l_cell) := ⟨rfl, rfl, rfl, by decide +kernel, rfl, by decide +kernel, by decide +kernel⟩
theorem sc_l_box : FnScope ["cell"] ["cell"] (defScope s_l_box) := ⟨rfl, rfl, rfl, by decide +kernel, rfl, by decide +kernel, by decide +kernel⟩
theorem sc_l_take : FnScope ["box", "many", "digit", "one", "other"] ["box", "many"] (defScope s_l_take) := ⟨rfl, rfl, rfl, by decide +kernel, rfl, by decide +kernel, by decide +kernel⟩
theorem sc_l_week : FnScope ["box", "warmth"] ["box"] (defScope s_l_week) := ⟨rfl, rfl, rfl, by decide +kernel, rfl, by decide +kernel, by decide +kernel⟩
theorem sc_l_weeks : FnScope ["box", "many", "k"] ["box"] (defScope s_l_weeks) := ⟨rfl, rfl, rfl, by decide +kernel, rfl, by decide +kernel, by decide +kernel⟩
theorem sc_l_odd : FnScope ["box", "some"] ["box"] (defScope s_l_odd) := ⟨rfl, rfl, rfl, by decide +kernel, rfl, by decide +kernel, by decide +kernel⟩
theorem sc_l_number : FnScope ["box", "low", "high", "some"] ["box", "low", "high"] (defScope s_l_number) := ⟨rfl, rfl, rfl, by decide +kernel, rfl, by decide +kernel, by decide +kernel⟩
theorem sc_l_whole : FnScope ["thing", "low", "high"] ["thing", "low", "high"] (defScope s_l_whole) := ⟨rfl, rfl, rfl, by decide +kernel, rfl, by decide +kernel, by decide +kernel⟩
theorem sc_l_are_weeks : FnScope ["thing", "pair"] ["thing"] (defScope s_l_are_weeks) := ⟨rfl, rfl, rfl, by decide +kernel, rfl, by decide +kernel, by decide +kernel⟩
theorem sc_l_near : FnScope ["box", "weeks", "found", "turn", "at", "warmth", "cold", "some", "way"] ["box", "weeks"] (defScope s_l_near) := ⟨rfl, rfl, rfl, by decide +kernel, rfl, by decide +kernel, by decide +kernel⟩
theorem sc_l_made : FnScope ["thing", "e"] ["thing"] (defScope s_l_made) := ⟨rfl, rfl, rfl, by decide +kernel, rfl, by decide +kernel, by decide +kernel⟩
theorem sc_l_made_right : FnScope ["thing", "due", "found"] ["thing"] (defScope s_l_made_right) := ⟨rfl, rfl, rfl, by decide +kernel, rfl, by decide +kernel, by decide +kernel⟩
theorem sc_l_due : FnScope ["many", "told", "way", "things"] ["many", "told", "way", "things"] (defScope s_l_due) := ⟨rfl, rfl, rfl, by decide +kernel, rfl, by decide +kernel, by decide +kernel⟩
theorem sc_l_call : FnScope ["year", "way", "things"] ["year", "way", "things"] (defScope s_l_call) := ⟨rfl, rfl, rfl, by decide +kernel, rfl, by decide +kernel, by decide +kernel⟩
theorem sc_l_found : FnScope ["year", "way", "things", "found", "e"] ["year", "way", "things"] (defScope s_l_found) := ⟨rfl, rfl, rfl, by decide +kernel, rfl, by decide +kernel, by decide +kernel⟩
theorem sc_l_refused_right : FnScope ["box", "year", "many", "told", "way", "week", "things", "due", "kept", "found", "thing"] ["box", "year", "many", "told"] (defScope s_l_refused_right) := ⟨rfl, rfl, rfl, by decide +kernel, rfl, by decide +kernel, by decide +kernel⟩
theorem sc_law : FnScope ["script", "k", "box", "weeks", "year", "week", "turn"] ["script"] (defScope s_law) := ⟨rfl, rfl, rfl, by decide +kernel, rfl, by decide +kernel, by decide +kernel⟩
theorem ok_NoNumber_init {P : Program} {w : World} {K : PySem.W.Frag} {mg : Str → Option Value} {base : Heap} (T : Tx K mg) : FnOk P w K mg base CX0 2 (a_NoNumber_init K) (fdOf K (a_NoNumber_init K)) ["self", "found"] (spInit K (He.ga K "NoNumber")) :=
  FunD.ok T.f_NoNumber_init sc_NoNumber_init (fun vs H Q E h => spInit_len h) (fun cdv A outer s H vs Q E hr h => ⟨_, (pss_cons (ps_expr (pe_binit T.y_WeekError rfl (pa_cons (pv 0) (pa_cons pe_str pa_nil))))
 (pss_one (ps_ost (pv 0) (pv 1)))), init_plain h⟩)
theorem okq_NoSort_init {P : Program} {w : World} {K : PySem.W.Frag} {mg : Str → Option Value} {base : Heap} (T : Tx K mg) : FnOk P w K mg base CX0 2 (a_NoSort_init K) (fdOf K (a_NoSort_init K)) ["self", "found"] (spInitQ K (He.ga K "NoSort") "what is no sort") :=
  FunD.ok T.f_NoSort_init sc_NoSort_init (fun vs H Q E h => spInitQ_len h) (fun cdv A outer s H vs Q E hr h => ⟨_, (pss_cons (ps_expr (pe_binitQ T.y_WeekError rfl (pa_cons (pv 0) (pa_cons pe_str pa_nil))))
 (pss_one (ps_ostQ (pv 0) (pv 1)))), init_plainQ h⟩)
theorem ok_NoYear_init {P : Program} {w : World} {K : PySem.W.Frag} {mg : Str → Option Value} {base : Heap} (T : Tx K mg) : FnOk P w K mg base CX0 2 (a_NoYear_init K) (fdOf K (a_NoYear_init K)) ["self", "found"] (spInit K (He.ga K "NoYear")) :=
  FunD.ok T.f_NoYear_init sc_NoYear_init (fun vs H Q E h => spInit_len h) (fun cdv A outer s H vs Q E hr h => ⟨_, (pss_cons (ps_expr (pe_binit T.y_WeekError rfl (pa_cons (pv 0) (pa_cons pe_str pa_nil))))
 (pss_one (ps_ost (pv 0) (pv 1)))), init_plain h⟩)
theorem ok_NoWeek_init {P : Program} {w : World} {K : PySem.W.Frag} {mg : Str → Option Value} {base : Heap} (T : Tx K mg) : FnOk P w K mg base CX0 2 (a_NoWeek_init K) (fdOf K (a_NoWeek_init K)) ["self", "found"] (spInit K (He.ga K "NoWeek")) :=
  FunD.ok T.f_NoWeek_init sc_NoWeek_init (fun vs H Q E h => spInit_len h) (fun cdv A outer s H vs Q E hr h => ⟨_, (pss_cons (ps_expr (pe_binit T.y_WeekError rfl (pa_cons (pv 0) (pa_cons pe_str pa_nil))))
 (pss_one (ps_ost (pv 0) (pv 1)))), init_plain h⟩)
theorem ok_NotThere_init {P : Program} {w : World} {K : PySem.W.Frag} {mg : Str → Option Value} {base : Heap} (T : Tx K mg) : FnOk P w K mg base CX0 2 (a_NotThere_init K) (fdOf K (a_NotThere_init K)) ["self", "found"] (LE.spInit K (He.ga K "NotThere")) :=
  FunD.ok T.f_NotThere_init sc_NotThere_init (fun vs H Q E h => LE.spInit_len h) (fun cdv A outer s H vs Q E hr h => ⟨_, (pss_cons (ps_expr (LE.pe_binit T.y_MissError rfl (pa_cons (pv 0) (pa_cons pe_str pa_nil))))
 (pss_one (LE.ps_ostL (pv 0) (pv 1)))), LE.init_plain h⟩)
end Wk
set_option maxRecDepth 100000
set_option maxHeartbeats 0
namespace Wk
open PySem PySem.Spec PyProof.Rows L2
def ln0 : List Str := ["_wall", "WeekError", "MissError", "NoNumber", "NoSort", "NoYear", "NoWeek", "NotThere", "is_whole", "MOST_WEEKS", "MOST_WARMTH", "MOST_COLD", "is_warmth", "is_cold", "is_pair", "Year", "_law_cell", "_law_box", "_law_take", "_law_week", "_law_weeks", "_law_odd", "_law_number", "_law_whole", "_law_are_weeks", "_law_near", "_law_made", "_law_made_right", "_law_due", "_law_call"]
def ln1 : List Str := ["_law_found", "_law_refused_right"]
def loose : List Str := ln0 ++ ln1
abbrev Rw : PySem.W.OpenRow := PySem.W.OpenLaw.row PySem.Challenge.rw_weekheads_k12_years_refused
abbrev hk : PySem.W.Hook := WA.hookX cs fx fn
def ob (s : PySem.W.SharedT) : WA.AlX := WA.obsXG cs fx fn (HandSHeadRun.getT s)
theorem ob_eq (s : PySem.W.SharedT) : ob s = hk.obs s.abs := WA.obsXG_eq (HandSHeadRun.getT_eq s)
theorem run (w : World) : HandSHeadRun.RunEq Rw (PySem.W.view Rw.prog [36]) hk ob 20000 loose w := by
  intro os
  kernel_rfl
end Wk
section
open PySem PySem.W PySem.Calls PyProof.Rows
set_option maxRecDepth 100000 in
set_option maxHeartbeats 0 in
theorem Wk.lawFin (HC : ∀ {q : Program} {loose : List Str} {XP : (Str → Option Value) → Heap → Prop} {d : DefRec}, d.params.defaults = [] → d.name = "law" → PySem.W.WalkO q loose XP Wk.hk.says (PySem.W.OpenLaw.row PySem.Challenge.rw_weekheads_k12_years_refused).toRowW d [] (fun f vs => PySem.call f vs)) : PySem.Challenge.rw_weekheads_k12_years_refused.Holds := by
  w_on; o_law
  refine HandSHeadRun.head_any (r := OpenLaw.row PySem.Challenge.rw_weekheads_k12_years_refused) (q := view (OpenLaw.row PySem.Challenge.rw_weekheads_k12_years_refused).prog [36]) (H := Wk.hk) (ob := Wk.ob) (M := 20000) (loose := Wk.loose) (d := HandSHeadRun.topDef (OpenLaw.row PySem.Challenge.rw_weekheads_k12_years_refused).prog 36) (kwd := []) Wk.ob_eq
    (by kernel_rfl) (fun s => by kernel_rfl) Wk.run (by kernel_rfl) (by kernel_rfl) (by kernel_rfl) (by rfl) (by first | assumption | decide +kernel) (by decide +kernel) ⟨rfl, rfl, rfl, rfl, rfl, by decide +kernel⟩ ?hw ?hc
  case hw => w_witness2
  case hc => exact HC (by kernel_rfl) (by kernel_rfl)
end
set_option maxRecDepth 100000
set_option maxHeartbeats 4000000
namespace Wk
open PySem PySem.Spec PyProof.Rows L2
local macro_rules | `(tactic| wtm_at "mem") => `(tactic| fail)
local macro_rules | `(tactic| wtm_at "mem") => `(tactic| first
  | exact List.mem_cons_self ..
  | exact List.mem_cons_of_mem _ (List.mem_cons_self ..)
  | exact List.mem_cons_of_mem _ (List.mem_cons_of_mem _ (List.mem_cons_self ..))
  | exact List.mem_cons_of_mem _ (List.mem_cons_of_mem _ (List.mem_cons_of_mem _ (List.mem_cons_self ..)))
  | exact List.mem_cons_of_mem _ (List.mem_cons_of_mem _ (List.mem_cons_of_mem _ (List.mem_cons_of_mem _ (List.mem_cons_self ..)))))
local macro_rules | `(tactic| wtm_at "dat") => `(tactic| fail)
local macro_rules | `(tactic| wtm_at "dat") => `(tactic| first
  | assumption
  | (refine Ex.of ?_ (by assumption); wtm_at "dat"))
local macro_rules | `(tactic| wtm_at "ex") => `(tactic| fail)
local macro_rules | `(tactic| wtm_at "ex") => `(tactic| first
  | assumption
  | exact Ex.refl _
  | (refine Ex.trans ?_ (by assumption); wtm_at "ex"))
local macro_rules | `(tactic| wtm_at "hp") => `(tactic| fail)
local macro_rules | `(tactic| wtm_at "hp") => `(tactic| first
  | assumption
  | exact HI.get (by assumption) (by wtm_at "mem")
  | exact HI.dat (by assumption) (by wtm_at "dat"))
local macro_rules | `(tactic| wtm_at "hi") => `(tactic| fail)
local macro_rules | `(tactic| wtm_at "hi") => `(tactic| first
  | assumption
  | exact HI.swap (by assumption)
  | exact HI.up2 (by assumption)
  | exact HI.up3 (by assumption))
local macro_rules | `(tactic| wtm_at "num") => `(tactic| fail)
local macro_rules | `(tactic| wtm_at "num") => `(tactic| first
  | omega
  | decide
  | exact ⟨by decide, by decide⟩
  | exact cdiv_of (by omega) (by omega)
  | exact ⟨by omega, by omega⟩
  | (refine ⟨by omega, by omega, ?_⟩; omega)
  | exact Or.inl ⟨by omega, by omega⟩
  | exact Or.inr ⟨by omega, by omega⟩)
local macro_rules | `(tactic| wtm_at "kn") => `(tactic| fail)
local macro_rules | `(tactic| wtm_at "kn") => `(tactic| first
  | assumption
  | exact Kn.int _
  | exact Kn.str _
  | exact Kn.bl _
  | exact Kn.non
  | exact HI.kn (by assumption) (by assumption)
  | exact HI.kn (by assumption) (Kn.mono (by assumption) (by assumption))
  | exact Kn.lst (by wtm_at "hp")
  | exact Kn.tup (by wtm_at "hp")
  | exact Kn.dict (by wtm_at "hp"))
local macro_rules | `(tactic| wtm_at "s1x0") => `(tactic| fail)
local macro_rules | `(tactic| wtm_at "s1x0") => `(tactic| first
  | with_reducible refine st_seq ?_
  | with_reducible refine st_asg ?_
  | with_reducible refine st_ret ?_
  | with_reducible refine st_if ?_
  | with_reducible refine st_drop ?_
  | with_reducible refine st_next ?_
  | with_reducible refine st_brk ?_
  | with_reducible refine st_cont ?_
  | with_reducible refine sg_name ?_
  | with_reducible refine sg_sub ?_
  | with_reducible refine sg_nil ?_
  | with_reducible refine sg_cons ?_)
local macro_rules | `(tactic| wtm_at "s1x1") => `(tactic| fail)
local macro_rules | `(tactic| wtm_at "s1x1") => `(tactic| first
  | ((with_reducible refine' sg_tup ?e1 ?e2 ?_); (case e1 => exact SqT.of (by wtm_at "hp")); (case e2 => rfl))
  | ((with_reducible refine' se_var ?e1 ?_); (case e1 => rfl))
  | with_reducible refine se_c ?_
  | with_reducible refine se_op ?_
  | with_reducible refine se_un ?_
  | with_reducible refine se_tup ?_
  | with_reducible refine se_lst ?_
  | with_reducible refine se_lstM ?_
  | with_reducible refine st_for ?_
  | with_reducible refine se_lc ?_
  | with_reducible refine it_rng1 ?_
  | with_reducible refine it_rng2 ?_)
local macro_rules | `(tactic| wtm_at "s1x2") => `(tactic| fail)
local macro_rules | `(tactic| wtm_at "s1x2") => `(tactic| first
  | with_reducible refine it_list ?_
  | with_reducible refine it_str ?_
  | with_reducible refine strI_mk ?_
  | ((with_reducible refine' list_mk ?e1 ?_); (case e1 => wtm_at "hp"))
  | ((with_reducible refine' rng1_mk ?e1 ?e2 ?_); (case e1 => omega); (case e2 => omega))
  | ((with_reducible refine' rng2_mk ?e1 ?_); (case e1 => omega))
  | with_reducible refine st_yes ?_
  | ((with_reducible refine' al_D ?e1 ?_); (case e1 => assumption); intro _ _ _ _ _ _)
  | ((with_reducible refine' al_M ?e1 ?_); (case e1 => assumption); intro _ _ _)
  | ((with_reducible refine' and_on ?e1 ?_); (case e1 => first | exact small_ok (Nat.le_of_ble_eq_true rfl) | rfl | omega))
  | with_reducible refine sa_nil ?_
  | with_reducible refine sa_cons ?_)
local macro_rules | `(tactic| wtm_at "s1x3") => `(tactic| fail)
local macro_rules | `(tactic| wtm_at "s1x3") => `(tactic| first
  | with_reducible refine se_cb ?_
  | with_reducible refine se_if ?_
  | with_reducible refine st_test ?_
  | with_reducible refine st_B ?_
  | with_reducible refine st_bl ?_
  | with_reducible refine st_and ?_
  | with_reducible refine st_or ?_
  | with_reducible refine st_not ?_
  | with_reducible refine ri0_mk ?_
  | with_reducible refine ru_mk ?_
  | ((with_reducible refine' ri_mk ?e1 ?_); (case e1 => wtm_at "num"))
  | with_reducible refine RAdd.int ?_)
local macro_rules | `(tactic| wtm_at "s1x4") => `(tactic| fail)
local macro_rules | `(tactic| wtm_at "s1x4") => `(tactic| first
  | ((with_reducible refine' RMul.int ?e1 ?_); (case e1 => wtm_at "num"))
  | with_reducible refine req_int ?_
  | with_reducible refine rne_int ?_
  | with_reducible refine req_str ?_
  | with_reducible refine rne_str ?_
  | ((with_reducible refine' RIx.l ?e1 ?e2 ?_); (case e1 => wtm_at "hp"); (case e2 => rfl))
  | ((with_reducible refine' set_c ?e1 ?e2 ?_); (case e1 => assumption); (case e2 => rfl); intro _ _)
  | ((with_reducible refine' set_c2 ?e1 ?e2 ?_); (case e1 => assumption); (case e2 => rfl); intro _ _)
  | ((with_reducible refine' set_c3 ?e1 ?e2 ?_); (case e1 => assumption); (case e2 => rfl); intro _ _)
  | with_reducible refine iteT ?_
  | with_reducible refine iteF ?_
  | ((with_reducible refine' if_yes ?e1 ?_); (case e1 => omega)))
local macro_rules | `(tactic| wtm_at "s1x5") => `(tactic| fail)
local macro_rules | `(tactic| wtm_at "s1x5") => `(tactic| first
  | ((with_reducible refine' if_no ?e1 ?_); (case e1 => omega))
  | ((with_reducible refine' if_yesN ?e1 ?_); (case e1 => omega))
  | ((with_reducible refine' if_noN ?e1 ?_); (case e1 => omega))
  | ((with_reducible refine' RIx.t ?e1 ?e2 ?_); (case e1 => wtm_at "hp"); (case e2 => rfl))
  | with_reducible refine se_andV ?_
  | with_reducible refine se_orV ?_
  | with_reducible refine se_notV ?_
  | with_reducible refine se_chain ?_
  | with_reducible refine se_sl ?_
  | with_reducible refine so_none ?_
  | with_reducible refine so_some ?_
  | with_reducible refine so_int ?_)
local macro_rules | `(tactic| wtm_at "s1x6") => `(tactic| fail)
local macro_rules | `(tactic| wtm_at "s1x6") => `(tactic| first
  | with_reducible refine se_m1 ?_
  | with_reducible refine se_m0 ?_
  | with_reducible refine m_str ?_
  | with_reducible refine se_mkE ?_
  | ((with_reducible refine' mkE_now ?e1 ?_); (case e1 => assumption); intro _ _ _ _ _ _ _ _)
  | with_reducible refine st_raiseX ?_
  | ((with_reducible refine' mkX_now ?e1 ?_); (case e1 => assumption); intro _ _ _ _ _ _)
  | with_reducible refine st_par ?_
  | with_reducible refine par_mk ?_
  | ((with_reducible refine' st_aug ?e1 ?_); (case e1 => rfl))
  | ((with_reducible refine' RIsi.ty ?e1 ?e2 ?_); (case e1 => wtm_at "kn"); (case e2 => decide))
  | with_reducible refine ris_non ?_)
local macro_rules | `(tactic| wtm_at "s1x7") => `(tactic| fail)
local macro_rules | `(tactic| wtm_at "s1x7") => `(tactic| first
  | with_reducible refine ris_nonN ?_
  | with_reducible refine ris_bl ?_
  | with_reducible refine ris_blN ?_
  | with_reducible refine rin_sign ?_
  | with_reducible refine rni_sign ?_
  | ((with_reducible refine' RLen.str ?e1 ?_); (case e1 => first | exact small_ok (by omega) | exact small_ok (Nat.le_of_ble_eq_true rfl)))
  | ((with_reducible refine' RLen.lst ?e1 ?_); (case e1 => wtm_at "hp"))
  | ((with_reducible refine' RLen.frz ?e1 ?_); (case e1 => wtm_at "hp"))
  | ((with_reducible refine' RLen.tup ?e1 ?_); (case e1 => wtm_at "hp"))
  | (with_reducible refine RMx.mk ?_; intro _ _ _ _)
  | (with_reducible refine RMn.mk ?_; intro _ _ _ _)
  | with_reducible refine RStarts.mk ?_)
local macro_rules | `(tactic| wtm_at "s1x8") => `(tactic| fail)
local macro_rules | `(tactic| wtm_at "s1x8") => `(tactic| first
  | with_reducible refine RFind.mk ?_
  | with_reducible refine RInt.bl ?_
  | ((with_reducible refine' RAll.mk ?e1 ?_); (case e1 => wtm_at "hp")))
local macro_rules | `(tactic| wtm_at "s1") => `(tactic| fail)
local macro_rules | `(tactic| wtm_at "s1") => `(tactic| first
  | wtm_at "s1x0"
  | wtm_at "s1x1"
  | wtm_at "s1x2"
  | wtm_at "s1x3"
  | wtm_at "s1x4"
  | wtm_at "s1x5"
  | wtm_at "s1x6"
  | wtm_at "s1x7"
  | wtm_at "s1x8")
local macro_rules | `(tactic| wtm_at "sx") => `(tactic| fail)
local macro_rules | `(tactic| wtm_at "sx") => `(tactic| repeat (wtm_at "s1"; try dsimp only [List.set, Int.reduceToNat]))
local macro_rules | `(tactic| wtm_at "go") => `(tactic| fail)
local macro_rules | `(tactic| wtm_at "go") => `(tactic| (dsimp only [cxOf, L2.start, List.map, List.length, List.replicate, Nat.reduceAdd, Nat.reduceSub, List.replicate, HAppend.hAppend, Append.append, List.append]; wtm_at "sx"))
local macro_rules | `(tactic| wtm_at "sxm") => `(tactic| fail)
local macro_rules | `(tactic| wtm_at "sxm") => `(tactic| repeat (first | ((with_reducible refine' mod_let ?e1 ?_); (case e1 => omega); intro _ _ _) | wtm_at "s1"; try dsimp only [List.set, Int.reduceToNat]))
local macro_rules | `(tactic| wtm_at "go0") => `(tactic| fail)
local macro_rules | `(tactic| wtm_at "go0") => `(tactic| dsimp only [cxOf, L2.start, List.map, List.length, List.replicate, Nat.reduceAdd, Nat.reduceSub, List.replicate, HAppend.hAppend, Append.append, List.append])
/-- the three numbers of a box, drawn at most n times -/
structure BoxOk (n : Nat) (x y z : Int) : Prop where
  x0 : 0 ≤ x
  y0 : 0 ≤ y
  y1 : y < 2147483629
  z0 : 0 ≤ z
  z1 : z ≤ n
abbrev bx (x y z : Int) : HO := .lst [.int x, .int y, .int z]
/-- a draw: below many, the box drawn once more -/
def spTake : Sp := fun vs H Q _ => ∃ (b : Addr) (m : Int) (R : List (Addr × HO)) (D : Hp) (x y z : Int) (n : Nat), vs = [.ref b, .int m] ∧ 0 < m ∧ m < 2 ^ 100 ∧ HI H ((b, bx x y z) :: R) D ∧ BoxOk n x y z ∧ n < 1000000 ∧
  ∀ r x' y' z' H', HI H' ((b, bx x' y' z') :: R) D → BoxOk (n + 1) x' y' z' → 0 ≤ r → r < m → Q (.int r) H'
theorem take_now {b : Addr} {m : Int} {R : List (Addr × HO)} {D H : Hp} {x y z : Int} {n : Nat} {Q : VK} {E : XK} (hi : HI H ((b, bx x y z) :: R) D) (m0 : 0 < m) (m1 : m < 2 ^ 100) (hb : BoxOk n x y z) (hn : n < 1000000)
    (k : ∀ r x' y' z' H', HI H' ((b, bx x' y' z') :: R) D → BoxOk (n + 1) x' y' z' → 0 ≤ r → r < m → Q (.int r) H') : spTake ([V.ref b, V.int m] ++ []) H Q E := ⟨b, m, R, D, x, y, z, n, rfl, m0, m1, hi, hb, hn, k⟩
set_option maxHeartbeats 400000 in
theorem ok_l_take {P : Program} {w : World} {K : PySem.W.Frag} {mg : Str → Option Value} {base : Heap} (T : Tx K mg) : FnG P w K mg base 1 (a_l_take K) ["box", "many"] spTake := by
  refine T.f_l_take.ok sc_l_take (fun vs H Q E h => ?_) (fun cdv A outer s H vs Q E hgu hr h => ⟨_, (pss_cons (ps_if (pt_cmpR op_gt (pe_ix ix_U (pv 0) pe_int (fun _ _ => rfl)) pe_int (nomark _)) (pss_cons (ps_set (i := 2) sc_l_take.nd rfl (Or.inl rfl) (pe_op op_mod (pe_ix ix_U (pv 0) pe_int (fun _ _ => rfl)) (pv 1)))
 (pss_cons (ps_asg (pe_op op_fdivW (pe_ix ix_U (pv 0) pe_int (fun _ _ => rfl)) (pv 1)) (pg_sub (pv 0) pe_int set_list))
 (pss_one (ps_ret (pv 2))))) pss_nil)
 (pss_cons (ps_asg (pe_op op_addU (pe_ix ix_U (pv 0) pe_int (fun _ _ => rfl)) pe_int) (pg_sub (pv 0) pe_int set_list))
 (pss_cons (ps_set (i := 3) sc_l_take.nd rfl (Or.inl rfl) (pe_op op_mod (pe_op op_pow (pe_op op_addU (pe_op op_addU (pe_ix ix_U (pv 0) pe_int (fun _ _ => rfl)) (pe_op op_mulU pe_int (pe_ix ix_U (pv 0) pe_int (fun _ _ => rfl)))) pe_int) pe_int) pe_int))
 (pss_cons (ps_set (i := 4) sc_l_take.nd rfl (Or.inl rfl) (pe_op op_mod (pe_op op_pow (pe_op op_addU (pe_op op_addU (pe_op op_fdivW (pv 3) pe_int) (pe_op op_mulU (pe_op op_mulU pe_int (pe_ix ix_U (pv 0) pe_int (fun _ _ => rfl))) (pe_ix ix_U (pv 0) pe_int (fun _ _ => rfl)))) pe_int) pe_int) pe_int))
 (pss_one (ps_ret (pe_op op_mod (pe_op op_addU (pe_op op_fdivW (pv 3) pe_int) (pe_op op_mulU pe_int (pe_op op_fdivW (pv 4) pe_int))) (pv 1)))))))), ?_⟩)
  · obtain ⟨b, m, R, D, x, y, z, n, rfl, _⟩ := h
    rfl
  · obtain ⟨b, m, R, D, x, y, z, n, rfl, m0, m1, hi, hb, hn, k⟩ := h
    obtain ⟨x0, y0, y1, z0, z1⟩ := hb
    wtm_at "go"
    refine if_dec (fun h => ?_) (fun h => ?_)
    · wtm_at "sx"
      exact k _ _ _ _ _ (by assumption) ⟨Int.ediv_nonneg x0 (by omega), y0, y1, z0, by omega⟩ (Int.emod_nonneg _ (by omega)) (Int.emod_lt_of_pos _ m0)
    · wtm_at "sxm"
      refine ri_mk ⟨by decide, by decide, pow_ok (by omega) (by omega) (by omega) (by omega) (by omega) (by omega) (by omega) (by omega)⟩ ?_
      wtm_at "sxm"
      exact k _ _ _ _ _ (by assumption) ⟨x0, y0, y1, by omega, by omega⟩ (by assumption) (by assumption)
theorem take_more {α : Type} : ∀ {l : List α} {i : Nat} {x : α}, l[i]? = some x → l.take (i + 1) = l.take i ++ [x]
  | [], i, x, h => by simp at h
  | a :: l, 0, x, h => by
    have e : a = x := Option.some.inj h
    subst e
    rfl
  | a :: l, i + 1, x, h => by
    have ih := take_more (l := l) (i := i) (x := x) h
    show a :: l.take (i + 1) = a :: l.take i ++ [x]
    rw [ih]
    rfl
def spCell : Sp := fun vs H Q _ => ∃ (l : Addr) (o : Obj) (k : Int) (ns : List Int) (R : Cells) (D : Hp), vs = [.ref l, .int k] ∧ HI H R D ∧ D l = some (.frz o (.lst (ns.map V.int))) ∧ 0 ≤ k ∧ k < 1000 ∧ ∀ c H', HI H' R D → Q (.int c) H'
def spBox : Sp := fun vs H Q _ => ∃ (c : Int) (R : Cells) (D : Hp), vs = [.int c] ∧ HI H R D ∧ ∀ b x y H', HI H' ((b, bx x y 0) :: R) D → BoxOk 0 x y 0 → Q (.ref b) H'
set_option maxHeartbeats 400000 in
theorem ok_l_cell {P : Program} {w : World} {K : PySem.W.Frag} {mg : Str → Option Value} {base : Heap} (T : Tx K mg) : FnG P w K mg base 1 (a_l_cell K) ["script", "k"] spCell := by
  refine T.f_l_cell.ok sc_l_cell (fun vs H Q E h => ?_) (fun cdv A outer s H vs Q E hgu hr h => ⟨_, (pss_cons (ps_if (pt_cmpR op_lt (pv 1) (pe_callB (call_lenU) (by rfl) T.n_len boot_len (pa_cons (pv 0) pa_nil)) (nomark _)) (pss_one (ps_ret (pe_ix ix_U (pv 0) (pv 1) (fun _ _ => rfl)))) pss_nil)
 (pss_one (ps_ret (pe_op op_addU (pe_op op_mulU pe_int (pv 1)) pe_int)))), ?_⟩)
  · obtain ⟨l, o, k, ns, R, D, rfl, _⟩ := h
    rfl
  · obtain ⟨l, o, k, ns, R, D, rfl, hi, hl, k0, k1, go⟩ := h
    wtm_at "go"
    refine if_dec (fun h => ?_) (fun h => ?_)
    · wtm_at "sx"
      rw [List.length_map] at h
      obtain ⟨j, rfl⟩ := Int.eq_ofNat_of_zero_le k0
      have hj : j < ns.length := by omega
      refine RIx.f (by wtm_at "hp") (atI_map (List.getElem?_eq_getElem hj)) ?_
      exact go _ _ (by assumption)
    · wtm_at "sx"
      exact go _ _ (by assumption)
set_option maxHeartbeats 400000 in
theorem ok_l_box {P : Program} {w : World} {K : PySem.W.Frag} {mg : Str → Option Value} {base : Heap} (T : Tx K mg) : FnG P w K mg base 1 (a_l_box K) ["cell"] spBox := by
  refine T.f_l_box.ok sc_l_box (fun vs H Q E h => ?_) (fun cdv A outer s H vs Q E hgu hr h => ⟨_, (pss_one (ps_ret (pe_lstM (pa_cons (pe_callB (call_maxU rfl) (by rfl) T.n_max boot_max (pa_cons pe_int (pa_cons (pe_op op_sub (pv 0) (pe_op op_pow pe_int pe_int)) pa_nil))) (pa_cons (pe_op op_mod (pv 0) pe_int) (pa_cons pe_int pa_nil)))))), ?_⟩)
  · obtain ⟨c, R, D, rfl, _⟩ := h
    rfl
  · obtain ⟨c, R, D, rfl, hi, go⟩ := h
    wtm_at "go"
    wtm_at "sxm"
    exact go _ _ _ _ (by assumption) ⟨by omega, by omega, by omega, by omega, by omega⟩
theorem cell_now {l : Addr} {o : Obj} {k : Int} {ns : List Int} {R : Cells} {D H : Hp} {Q : VK} {E : XK} (hi : HI H R D) (hl : D l = some (.frz o (.lst (ns.map V.int)))) (k0 : 0 ≤ k) (k1 : k < 1000) (q : ∀ c H', HI H' R D → Q (.int c) H') : spCell ([V.ref l, V.int k] ++ []) H Q E := ⟨l, o, k, ns, R, D, rfl, hi, hl, k0, k1, q⟩
theorem box_now {c : Int} {R : Cells} {D H : Hp} {Q : VK} {E : XK} (hi : HI H R D) (q : ∀ b x y H', HI H' ((b, bx x y 0) :: R) D → BoxOk 0 x y 0 → Q (.ref b) H') : spBox ([V.int c] ++ []) H Q E := ⟨c, R, D, rfl, hi, q⟩
local macro_rules | `(tactic| wtm_at "s2") => `(tactic| fail)
local macro_rules | `(tactic| wtm_at "s2") => `(tactic| first
  | wtm_at "s1"
  | with_reducible refine se_call1 ?_
  | with_reducible refine se_callN ?_
  | with_reducible refine se_dnewK ?_
  | ((with_reducible refine' se_disp ?e1 ?_); (case e1 => assumption); intro _ _ _)
  | with_reducible refine sp_cons ?_
  | with_reducible refine sp_nil ?_
  | ((with_reducible refine' disp_now ?e1 ?e2 ?e3 ?_); (case e1 => assumption); (case e2 => rfl); (case e3 => exact Nat.le_of_ble_eq_true rfl); intro _ _ _ _ _)
  | ((with_reducible refine' RAdd.lst ?e1 ?e2 ?e3 ?_); (case e1 => wtm_at "hp"); (case e2 => wtm_at "hp"); (case e3 => exact small_ok (Nat.le_of_ble_eq_true rfl)))
  | ((with_reducible refine' RMul.lst ?e1 ?e2 ?e3 ?e4 ?_); (case e1 => wtm_at "hp"); (case e2 => omega); (case e3 => omega); (case e4 => exact small_ok (Nat.le_of_ble_eq_true rfl)))
  | ((with_reducible refine' RStr.int ?e1 ?_); (case e1 => exact log2_small (by omega)))
  | ((with_reducible refine' RSl.str ?e1 ?_); (case e1 => first | exact small_ok (by omega) | exact small_ok (Nat.le_of_ble_eq_true rfl)))
  | ((with_reducible refine' RAdd.str ?e1 ?_); (case e1 => exact small_ok (by omega)))
  | ((with_reducible refine' take_now ?e1 ?e2 ?e3 ?e4 ?e5 ?_); (case e1 => wtm_at "hi"); (case e2 => omega); (case e3 => omega); (case e4 => assumption); (case e5 => omega); intro _ _ _ _ _ _ _ _ _))
local macro_rules | `(tactic| wtm_at "sy") => `(tactic| fail)
local macro_rules | `(tactic| wtm_at "sy") => `(tactic| repeat (wtm_at "s2"; try dsimp only [List.set, Int.reduceToNat]))
local macro_rules | `(tactic| wtm_at "sz1") => `(tactic| fail)
local macro_rules | `(tactic| wtm_at "sz1") => `(tactic| first
  | ((with_reducible refine' rsl_some ?e1 ?e2 ?_); (case e1 => omega); (case e2 => assumption); intro _ _ _)
  | ((with_reducible refine' radd_some ?e1 ?e2 ?e3 ?_); (case e1 => omega); (case e2 => assumption); (case e3 => assumption); intro _ _ _)
  | ((with_reducible refine' rmul_some ?e1 ?e3 ?e4 ?e5 ?_); (case e1 => rfl); (case e3 => omega); (case e4 => omega); (case e5 => exact sg_of rfl); intro _ _ _)
  | wtm_at "s2")
local macro_rules | `(tactic| wtm_at "sz") => `(tactic| fail)
local macro_rules | `(tactic| wtm_at "sz") => `(tactic| repeat (wtm_at "sz1"; try dsimp only [List.set, Int.reduceToNat]))
local macro_rules | `(tactic| wtm_at "s3x1") => `(tactic| fail)
local macro_rules | `(tactic| wtm_at "s3x1") => `(tactic| first
  | with_reducible refine se_fld ?_
  | with_reducible refine st_fld ?_
  | ((with_reducible refine' fld_mk ?e1 ?e2 ?e3 ?e4 ?_); (case e1 => wtm_at "hp"); (case e2 => assumption); (case e3 => wtm_at "mem"); (case e4 => rfl))
  | ((with_reducible refine' sfld_now ?e1 ?e2 ?e3 ?e4 ?_); (case e1 => wtm_at "hi"); (case e2 => assumption); (case e3 => wtm_at "mem"); (case e4 => exact Nat.lt_of_lt_of_le (Nat.lt_succ_self _) (Nat.le_of_ble_eq_true rfl)); intro _ _)
  | with_reducible refine se_meth ?_
  | with_reducible refine se_methN ?_
  | ((with_reducible refine' meth_mk ?e1 ?e2 ?_); (case e1 => wtm_at "hp"); (case e2 => rfl))
  | with_reducible refine se_make ?_
  | with_reducible refine se_makeN ?_
  | ((with_reducible refine' make_now ?e1 ?_); (case e1 => assumption); intro _ _ _ _)
  | with_reducible refine se_fmt ?_
  | ((with_reducible refine' RFmt.str ?e1 ?_); (case e1 => omega)))
local macro_rules | `(tactic| wtm_at "s3x2") => `(tactic| fail)
local macro_rules | `(tactic| wtm_at "s3x2") => `(tactic| first
  | ((with_reducible refine' RFmt.int ?e1 ?_); (case e1 => exact log2_small (by omega)))
  | with_reducible refine sj_nil ?_
  | with_reducible refine sj_cons ?_
  | ((with_reducible refine' js_mk ?e1 ?_); (case e1 => omega))
  | ((with_reducible refine' and_on ?e1 ?_); (case e1 => exact small_ok (by simp only [len_app]; omega))))
local macro_rules | `(tactic| wtm_at "s3") => `(tactic| fail)
local macro_rules | `(tactic| wtm_at "s3") => `(tactic| first
  | wtm_at "s2"
  | wtm_at "s3x1"
  | wtm_at "s3x2")
local macro_rules | `(tactic| wtm_at "sc") => `(tactic| fail)
local macro_rules | `(tactic| wtm_at "sc") => `(tactic| repeat (wtm_at "s3"; try dsimp only [List.set, Int.reduceToNat]))
local macro_rules | `(tactic| wtm_at "s4") => `(tactic| fail)
local macro_rules | `(tactic| wtm_at "s4") => `(tactic| first
  | wtm_at "s3"
  | with_reducible refine se_bm ?_
  | with_reducible refine se_bm0 ?_
  | ((with_reducible refine' bm_ty ?e1 ?_); (case e1 => wtm_at "hp"))
  | ((with_reducible refine' app_now ?e1 ?e2 ?_); (case e1 => wtm_at "hi"); (case e2 => first | omega | exact Nat.lt_of_lt_of_le (Nat.lt_succ_self _) (Nat.le_of_ble_eq_true rfl)); intro _ _))
local macro_rules | `(tactic| wtm_at "sd") => `(tactic| fail)
local macro_rules | `(tactic| wtm_at "sd") => `(tactic| repeat (wtm_at "s4"; try dsimp only [List.set, Int.reduceToNat]))
local macro_rules | `(tactic| wtm_at "s5x0") => `(tactic| fail)
local macro_rules | `(tactic| wtm_at "s5x0") => `(tactic| first
  | with_reducible refine rne_same ?_
  | with_reducible refine req_same ?_)
local macro_rules | `(tactic| wtm_at "s5x2") => `(tactic| fail)
local macro_rules | `(tactic| wtm_at "s5x2") => `(tactic| first
  | ((with_reducible refine' if_kT ?e1 ?_); (case e1 => first | assumption | rfl))
  | ((with_reducible refine' if_kF ?e1 ?_); (case e1 => first | assumption | rfl))
  | ((with_reducible refine' if_nkT ?e1 ?_); (case e1 => first | assumption | rfl))
  | ((with_reducible refine' if_nkF ?e1 ?_); (case e1 => first | assumption | rfl))
  | ((with_reducible refine' if_tagF ?e1 ?_); (case e1 => rfl))
  | ((with_reducible refine' if_tagN ?e1 ?_); (case e1 => rfl))
  | ((with_reducible refine' if_yes ?e1 ?_); (case e1 => with_reducible rfl))
  | ((with_reducible refine' if_yesN ?e1 ?_); (case e1 => with_reducible rfl))
  | with_reducible refine if_notT ?_
  | with_reducible refine if_notF ?_
  | with_reducible refine it_zip ?_
  | with_reducible refine it_enum ?_)
local macro_rules | `(tactic| wtm_at "s5x3") => `(tactic| fail)
local macro_rules | `(tactic| wtm_at "s5x3") => `(tactic| first
  | with_reducible refine it_tup ?_
  | ((with_reducible refine' zip_mk ?e1 ?e2 ?_); (case e1 => wtm_at "hp"); (case e2 => wtm_at "hp"))
  | ((with_reducible refine' enum_mk ?e1 ?_); (case e1 => wtm_at "hp"))
  | ((with_reducible refine' tupI_mk ?e1 ?_); (case e1 => wtm_at "hp"))
  | with_reducible refine st_try ?_
  | with_reducible refine se_by ?_
  | ((with_reducible refine' RTupO.l ?e1 ?_); (case e1 => wtm_at "hp"))
  | ((with_reducible refine' RListO.l ?e1 ?_); (case e1 => wtm_at "hp"))
  | ((with_reducible refine' RListO.t ?e1 ?_); (case e1 => wtm_at "hp"))
  | ((with_reducible refine' RListM.l ?e1 ?_); (case e1 => wtm_at "hp")))
local macro_rules | `(tactic| wtm_at "s5") => `(tactic| fail)
local macro_rules | `(tactic| wtm_at "s5") => `(tactic| first
  | wtm_at "s5x0"
  | wtm_at "s4"
  | wtm_at "s5x2"
  | wtm_at "s5x3")
local macro_rules | `(tactic| wtm_at "se") => `(tactic| fail)
local macro_rules | `(tactic| wtm_at "se") => `(tactic| repeat (wtm_at "s5"; try dsimp only [List.set, Int.reduceToNat]))
local macro_rules | `(tactic| wtm_at "sl") => `(tactic| fail)
local macro_rules | `(tactic| wtm_at "sl") => `(tactic| first
  | exact List.Sublist.refl _
  | (refine List.Sublist.cons₂ _ ?_; wtm_at "sl")
  | (refine List.Sublist.cons _ ?_; wtm_at "sl"))
local macro_rules | `(tactic| wtm_at "keep") => `(tactic| fail)
local macro_rules | `(tactic| wtm_at "keep") => `(tactic| exact HI.sublist (by assumption) (by wtm_at "sl"))
local macro_rules | `(tactic| wtm_at "s6x1") => `(tactic| fail)
local macro_rules | `(tactic| wtm_at "s6x1") => `(tactic| first
  | with_reducible refine se_dget2 ?_
  | with_reducible refine ip_mk ?_
  | with_reducible refine se_dnewM ?_
  | with_reducible refine se_dget1 ?_
  | ((with_reducible refine' dg_mk ?e1 ?_); (case e1 => wtm_at "hp"))
  | ((with_reducible refine' dq_i ?e1 ?_); (case e1 => wtm_at "hp"))
  | ((with_reducible refine' dq_s ?e1 ?_); (case e1 => wtm_at "hp"))
  | with_reducible refine se_dsub ?_
  | with_reducible refine se_din ?_
  | with_reducible refine se_dni ?_
  | ((with_reducible refine' di_i ?e1 ?_); (case e1 => wtm_at "hp"))
  | ((with_reducible refine' di_s ?e1 ?_); (case e1 => wtm_at "hp")))
local macro_rules | `(tactic| wtm_at "s6x2") => `(tactic| fail)
local macro_rules | `(tactic| wtm_at "s6x2") => `(tactic| first
  | with_reducible refine st_dput ?_
  | ((with_reducible refine' dp_i ?e1 ?e2 ?_); (case e1 => wtm_at "hi"); (case e2 => omega); intro _ _)
  | ((with_reducible refine' dp_s ?e1 ?e2 ?_); (case e1 => wtm_at "hi"); (case e2 => omega); intro _ _)
  | with_reducible refine se_dpop1 ?_
  | with_reducible refine it_seq ?_
  | ((with_reducible refine' seq_l ?e1 ?_); (case e1 => wtm_at "hp"))
  | ((with_reducible refine' seq_t ?e1 ?_); (case e1 => wtm_at "hp")))
local macro_rules | `(tactic| wtm_at "s6") => `(tactic| fail)
local macro_rules | `(tactic| wtm_at "s6") => `(tactic| first
  | wtm_at "s5"
  | wtm_at "s6x1"
  | wtm_at "s6x2")
local macro_rules | `(tactic| wtm_at "sg") => `(tactic| fail)
local macro_rules | `(tactic| wtm_at "sg") => `(tactic| repeat (wtm_at "s6"; try dsimp only [List.set, Int.reduceToNat]))
local macro_rules | `(tactic| wtm_at "s7") => `(tactic| fail)
local macro_rules | `(tactic| wtm_at "s7") => `(tactic| first
  | wtm_at "s6"
  | with_reducible refine st_augS ?_
  | with_reducible refine se_revL ?_
  | ((with_reducible refine' rv_mk ?e1 ?_); (case e1 => wtm_at "hp"))
  | ((with_reducible refine' RGetL.l ?e1 ?e2 ?e3 ?_); (case e1 => wtm_at "hp"); (case e2 => omega); (case e3 => assumption)))
local macro_rules | `(tactic| wtm_at "sh") => `(tactic| fail)
local macro_rules | `(tactic| wtm_at "sh") => `(tactic| repeat (wtm_at "s7"; try dsimp only [List.set, Int.reduceToNat]))
local macro_rules | `(tactic| wtm_at "s8") => `(tactic| fail)
local macro_rules | `(tactic| wtm_at "s8") => `(tactic| first
  | wtm_at "s7"
  | with_reducible refine se_fmtO ?_)
local macro_rules | `(tactic| wtm_at "si") => `(tactic| fail)
local macro_rules | `(tactic| wtm_at "si") => `(tactic| repeat (wtm_at "s8"; try dsimp only [List.set, Int.reduceToNat]))
local macro_rules | `(tactic| wtm_at "hi") => `(tactic| exact HI.up4 (by assumption))
local macro_rules | `(tactic| wtm_at "s9x0") => `(tactic| fail)
local macro_rules | `(tactic| wtm_at "s9x0") => `(tactic| first
  | ((with_reducible refine' disp_nowM ?e1 ?e2 ?e3 ?_); (case e1 => assumption); (case e2 => rfl); (case e3 => exact Nat.le_of_ble_eq_true rfl); intro _ _))
local macro_rules | `(tactic| wtm_at "s9x2") => `(tactic| fail)
local macro_rules | `(tactic| wtm_at "s9x2") => `(tactic| first
  | with_reducible refine st_par3 ?_
  | with_reducible refine par3_mk ?_
  | with_reducible refine se_mkQ ?_
  | ((with_reducible refine' mkQ_now ?e1 ?_); (case e1 => assumption); intro _ _ _ _ _ _ _ _ _ _)
  | ((with_reducible refine' se_dispM ?e1 ?_); (case e1 => assumption); intro _ _ _))
local macro_rules | `(tactic| wtm_at "s9") => `(tactic| fail)
local macro_rules | `(tactic| wtm_at "s9") => `(tactic| first
  | wtm_at "s9x0"
  | wtm_at "s8"
  | wtm_at "s9x2")
local macro_rules | `(tactic| wtm_at "sj") => `(tactic| fail)
local macro_rules | `(tactic| wtm_at "sj") => `(tactic| repeat (wtm_at "s9"; try dsimp only [List.set, Int.reduceToNat]))
local macro_rules | `(tactic| wtm_at "s11") => `(tactic| fail)
local macro_rules | `(tactic| wtm_at "s11") => `(tactic| first
  | wtm_at "s9"
  | with_reducible refine it_enumF ?_
  | ((with_reducible refine' enumF_mk ?e1 ?e2 ?_); (case e1 => wtm_at "hp"); (case e2 => decide))
  | with_reducible refine it_rng3 ?_
  | ((with_reducible refine' rng3_dn ?e1 ?_); (case e1 => omega))
  | with_reducible refine it_items ?_)
local macro_rules | `(tactic| wtm_at "sm") => `(tactic| fail)
local macro_rules | `(tactic| wtm_at "sm") => `(tactic| repeat (wtm_at "s11"; try dsimp only [List.set, Int.reduceToNat]))
local macro_rules | `(tactic| wtm_at "s12") => `(tactic| fail)
local macro_rules | `(tactic| wtm_at "s12") => `(tactic| first
  | wtm_at "s11"
  | with_reducible refine se_lrg ?_
  | ((with_reducible refine' lrg_mk ?e1 ?_); (case e1 => exact RgOk.of_le (by omega) (by omega) (by omega) (by omega))))
local macro_rules | `(tactic| wtm_at "sn") => `(tactic| fail)
local macro_rules | `(tactic| wtm_at "sn") => `(tactic| repeat (wtm_at "s12"; try dsimp only [List.set, Int.reduceToNat]))
def wholeB : V → Int → Int → Bool
  | .int i, lo, hi => decide (lo ≤ i) && decide (i ≤ hi)
  | _, _, _ => false
def spWhole (K : PySem.W.Frag) : Sp := fun vs H Q _ => ∃ (v : V) (lo hi : Int) (R : Cells) (D : Hp), vs = [v, .int lo, .int hi] ∧ HI H R D ∧ Mt K R D v ∧ ∀ H', HI H' R D → Q (.bl (wholeB v lo hi)) H'
set_option maxHeartbeats 400000 in
theorem ok_is_whole {P : Program} {w : World} {K : PySem.W.Frag} {mg : Str → Option Value} {base : Heap} (T : Tx K mg) : FnG P w K mg base 1 (a_is_whole K) ["thing", "low", "high"] (spWhole K) := by
  refine T.f_is_whole.ok sc_is_whole (fun vs H Q E h => ?_) (fun cdv A outer s H vs Q E hgu hr h => ⟨_, (pss_one (ps_ret (pe_and (pe_callB (show CallR _ (.builtin "isinstance") (RIsi K) from call_isiU) (by rfl) T.n_isinstance boot_isinstance (pa_cons (pv 0) (pa_cons (pe_bltn (v := .ty "int") (by rfl) T.n_int boot_int rfl) pa_nil))) (pe_and (pe_not (pe_callB (show CallR _ (.builtin "isinstance") (RIsi K) from call_isiU) (by rfl) T.n_isinstance boot_isinstance (pa_cons (pv 0) (pa_cons (pe_bltn (v := .ty "bool") (by rfl) T.n_bool boot_bool rfl) pa_nil)))) (pe_one (pe_chain op_le op_le (pv 1) (pv 0) (pv 2))))))), ?_⟩)
  · obtain ⟨v, lo, hi, R, D, rfl, _⟩ := h
    rfl
  · obtain ⟨v, lo, hi, R, D, rfl, hI, mt, go⟩ := h
    obtain ⟨⟨k, kn⟩, _⟩ := mt.kn hI
    wtm_at "go"
    rcases kn.told with ⟨rfl, rfl⟩ | ⟨b, rfl, rfl⟩ | ⟨i, rfl, rfl⟩ | ⟨z, rfl, rfl⟩ | ⟨a, rfl, hk⟩
    · exact go _ (by assumption)
    · refine iteT ?_
      wtm_at "sx"
      refine iteF ?_
      exact go _ (by assumption)
    · refine iteT ?_
      wtm_at "sx"
      refine iteT ?_
      wtm_at "sx"
      have g : Q (.bl (decide (lo ≤ i) && decide (i ≤ hi))) H := go _ (by assumption)
      refine if_dec (fun h => ?_) (fun h => ?_)
      · wtm_at "sx"
        rw [decide_eq_true h, Bool.true_and] at g
        exact g
      · rw [decide_eq_false h, Bool.false_and] at g
        exact g
    · exact go _ (by assumption)
    · have g := go _ (by assumption)
      rcases hk with rfl | rfl | rfl | rfl <;> exact g
theorem whole_use {K : PySem.W.Frag} {v : V} {lo hi : Int} {R : Cells} {D H : Hp} {Q : VK} {E : XK} (h : HI H R D) (mt : Mt K R D v) (q : ∀ H', HI H' R D → Q (.bl (wholeB v lo hi)) H') : spWhole K [v, .int lo, .int hi] H Q E := ⟨v, lo, hi, R, D, rfl, h, mt, q⟩
theorem whole_is {v : V} {lo hi : Int} (h : wholeB v lo hi = true) : ∃ i, v = .int i ∧ lo ≤ i ∧ i ≤ hi := by
  cases v with
  | int i =>
    obtain ⟨a, b⟩ := He.ba (show (decide (lo ≤ i) && decide (i ≤ hi)) = true from h)
    exact ⟨i, rfl, of_decide_eq_true a, of_decide_eq_true b⟩
  | _ => cases h
theorem whole_ok {i lo hi : Int} (h0 : lo ≤ i) (h1 : i ≤ hi) : wholeB (.int i) lo hi = true := by
  show (decide (lo ≤ i) && decide (i ≤ hi)) = true
  rw [decide_eq_true h0, decide_eq_true h1]
  rfl
structure WOk (p : Int × Int) : Prop where
  w0 : 0 ≤ p.1
  w1 : p.1 ≤ 400
  c0 : -60 ≤ p.2
  c1 : p.2 ≤ 60
def PairAt (D : Hp) (v : V) (p : Int × Int) : Prop := ∃ q, v = .ref q ∧ D q = some (.tup [.int p.1, .int p.2])
theorem PairAt.mono {D D' : Hp} {v : V} {p : Int × Int} (h : PairAt D v p) (x : Ex D D') : PairAt D' v p := by
  obtain ⟨q, e, h⟩ := h
  exact ⟨q, e, x _ _ h⟩
/-- a list of pairs -/
inductive PairsL (D : Hp) : List V → List (Int × Int) → Prop
  | nil : PairsL D [] []
  | cons {v : V} {xs : List V} {p : Int × Int} {ns : List (Int × Int)} : PairAt D v p → PairsL D xs ns → PairsL D (v :: xs) (p :: ns)
theorem PairsL.mono {D D' : Hp} (x : Ex D D') : ∀ {xs : List V} {ns : List (Int × Int)}, PairsL D xs ns → PairsL D' xs ns
  | _, _, .nil => .nil
  | _, _, .cons h l => .cons (h.mono x) (PairsL.mono x l)
theorem PairsL.length {D : Hp} : ∀ {xs : List V} {ns : List (Int × Int)}, PairsL D xs ns → xs.length = ns.length
  | _, _, .nil => rfl
  | _, _, .cons _ l => congrArg Nat.succ (PairsL.length l)
theorem PairsL.get {D : Hp} : ∀ {xs : List V} {ns : List (Int × Int)} {i : Nat} {p : Int × Int}, PairsL D xs ns → ns[i]? = some p → ∃ v, xs[i]? = some v ∧ PairAt D v p
  | _, _, _, _, .nil, e => by simp at e
  | _, _, 0, _, .cons h _, e => by
    simp at e
    subst e
    exact ⟨_, rfl, h⟩
  | _, _, i + 1, _, .cons _ l, e => by
    obtain ⟨v, a, b⟩ := PairsL.get (i := i) l (by simpa using e)
    exact ⟨v, by simpa using a, b⟩
theorem PairsL.getV {D : Hp} : ∀ {xs : List V} {ns : List (Int × Int)} {i : Nat} {v : V}, PairsL D xs ns → xs[i]? = some v → ∃ p, ns[i]? = some p ∧ PairAt D v p
  | _, _, _, _, .nil, e => by simp at e
  | _, _, 0, _, .cons h _, e => by
    simp at e
    subst e
    exact ⟨_, rfl, h⟩
  | _, _, i + 1, _, .cons _ l, e => by
    obtain ⟨p, a, b⟩ := PairsL.getV (i := i) l (by simpa using e)
    exact ⟨p, by simpa using a, b⟩
theorem PairsL.snoc {D : Hp} {v : V} {p : Int × Int} (h : PairAt D v p) : ∀ {xs : List V} {ns : List (Int × Int)}, PairsL D xs ns → PairsL D (xs ++ [v]) (ns ++ [p])
  | _, _, .nil => .cons h .nil
  | _, _, .cons a l => .cons a (PairsL.snoc h l)
theorem PairsL.app {D : Hp} {ys : List V} {ms : List (Int × Int)} (h : PairsL D ys ms) : ∀ {xs : List V} {ns : List (Int × Int)}, PairsL D xs ns → PairsL D (xs ++ ys) (ns ++ ms)
  | _, _, .nil => h
  | _, _, .cons a l => .cons a (PairsL.app h l)
theorem PairsL.take {D : Hp} : ∀ {xs : List V} {ns : List (Int × Int)} (k : Nat), PairsL D xs ns → PairsL D (xs.take k) (ns.take k)
  | _, _, 0, _ => .nil
  | _, _, _ + 1, .nil => .nil
  | _, _, k + 1, .cons a l => .cons a (PairsL.take k l)
theorem PairsL.drop {D : Hp} : ∀ {xs : List V} {ns : List (Int × Int)} (k : Nat), PairsL D xs ns → PairsL D (xs.drop k) (ns.drop k)
  | _, _, 0, h => h
  | _, _, _ + 1, .nil => .nil
  | _, _, k + 1, .cons _ l => PairsL.drop k l
def IsYr (K : PySem.W.Frag) (D : Hp) (a nl td : Addr) (ns : List (Int × Int)) : Prop :=
  (∃ dx, D a = some (.ins (He.ga K "Year") dx [("kept_normal", .ref nl), ("kept_told", .ref td)])) ∧ (∃ xs, D nl = some (.lst xs) ∧ PairsL D xs ns) ∧ 1 ≤ ns.length ∧ ns.length ≤ 52 ∧ ∀ p ∈ ns, WOk p
theorem IsYr.mono {K : PySem.W.Frag} {D D' : Hp} {a nl td : Addr} {ns : List (Int × Int)} (h : IsYr K D a nl td ns) (x : Ex D D') : IsYr K D' a nl td ns := by
  obtain ⟨⟨dx, e⟩, ⟨xs, e2, pl⟩, r⟩ := h
  exact ⟨⟨dx, x _ _ e⟩, ⟨xs, x _ _ e2, pl.mono x⟩, r⟩
/-- what is told of it -/
structure Told (D : Hp) (kvs : List (Key × V)) (m : Int → Option (Int × Int)) (n : Int) : Prop where
  no : ∀ k, m k = none → valV kvs (.inl k) = none
  yes : ∀ k p, m k = some p → ∃ v, valV kvs (.inl k) = some v ∧ PairAt D v p ∧ WOk p ∧ 1 ≤ k ∧ k ≤ n
  ks : ∃ ks : List Int, kvs.map (·.1) = ks.map Sum.inl ∧ ks.Nodup ∧ ∀ k ∈ ks, 1 ≤ k ∧ k ≤ n
theorem Told.mono {D D' : Hp} {kvs : List (Key × V)} {m : Int → Option (Int × Int)} {n : Int} (h : Told D kvs m n) (x : Ex D D') : Told D' kvs m n :=
  ⟨h.no, fun k p e => let ⟨v, a, b, c⟩ := h.yes k p e; ⟨v, a, b.mono x, c⟩, h.ks⟩
/-- a week as it stands -/
def stand (ns : List (Int × Int)) (m : Int → Option (Int × Int)) (k : Int) : Int × Int := (m k).getD (ns.getD (k - 1).toNat (0, 0))
/-- the year at a stands so: n weeks, the k-th as f k -/
def YrAt (K : PySem.W.Frag) (R : Cells) (D : Hp) (a : Addr) (f : Int → Int × Int) (n : Int) : Prop := ∃ nl td ns kvs m, IsYr K D a nl td ns ∧ ((td, HO.dK kvs) : Addr × HO) ∈ R ∧ Told D kvs m n ∧ n = (ns.length : Int) ∧ ∀ k, 1 ≤ k → k ≤ n → f k = stand ns m k
theorem YrAt.mono {K : PySem.W.Frag} {R : Cells} {D D' : Hp} {a : Addr} {f : Int → Int × Int} {n : Int} (h : YrAt K R D a f n) (x : Ex D D') : YrAt K R D' a f n := by
  obtain ⟨nl, td, ns, kvs, m, i, mm, t, e, g⟩ := h
  exact ⟨nl, td, ns, kvs, m, i.mono x, mm, t.mono x, e, g⟩
theorem YrAt.sub {K : PySem.W.Frag} {R R' : Cells} {D : Hp} {a : Addr} {f : Int → Int × Int} {n : Int} (h : YrAt K R D a f n) (s : ∀ q ∈ R, q ∈ R') : YrAt K R' D a f n := by
  obtain ⟨nl, td, ns, kvs, m, i, mm, r⟩ := h
  exact ⟨nl, td, ns, kvs, m, i, s _ mm, r⟩
theorem YrAt.cell {K : PySem.W.Frag} {R : Cells} {D : Hp} {a : Addr} {f : Int → Int × Int} {n : Int} {c : Addr × HO} (h : YrAt K R D a f n) : YrAt K (c :: R) D a f n := h.sub fun _ q => List.mem_cons_of_mem _ q
theorem YrAt.nn {K : PySem.W.Frag} {R : Cells} {D : Hp} {a : Addr} {f : Int → Int × Int} {n : Int} (h : YrAt K R D a f n) : 1 ≤ n ∧ n ≤ 52 := by
  obtain ⟨nl, td, ns, kvs, m, ⟨_, _, h0, h1, _⟩, mm, t, e, g⟩ := h
  omega
theorem YrAt.ok {K : PySem.W.Frag} {R : Cells} {D : Hp} {a : Addr} {f : Int → Int × Int} {n : Int} (h : YrAt K R D a f n) {k : Int} (k0 : 1 ≤ k) (k1 : k ≤ n) : WOk (f k) := by
  obtain ⟨nl, td, ns, kvs, m, ⟨_, _, h0, h1, hw⟩, mm, t, e, g⟩ := h
  rw [g k k0 k1]
  unfold stand
  cases em : m k with
  | some p =>
    obtain ⟨v, _, _, w, _⟩ := t.yes k p em
    exact w
  | none =>
    show WOk (ns.getD (k - 1).toNat (0, 0))
    have : (k - 1).toNat < ns.length := by omega
    rw [List.getD_eq_getElem?_getD, List.getElem?_eq_getElem this]
    exact hw _ (List.getElem_mem this)
def spWhl (K : PySem.W.Frag) (lo hi : Int) : Sp := fun vs H Q _ => ∃ (v : V) (R : Cells) (D : Hp), vs = [v] ∧ HI H R D ∧ Mt K R D v ∧ ∀ H', HI H' R D → Q (.bl (wholeB v lo hi)) H'
theorem whl_use {K : PySem.W.Frag} {lo hi : Int} {v : V} {R : Cells} {D H : Hp} {Q : VK} {E : XK} (h : HI H R D) (mt : Mt K R D v) (q : ∀ H', HI H' R D → Q (.bl (wholeB v lo hi)) H') : spWhl K lo hi [v] H Q E := ⟨v, R, D, rfl, h, mt, q⟩
theorem ok_is_warmth {P : Program} {w : World} {K : PySem.W.Frag} {mg : Str → Option Value} {base : Heap} (T : Tx K mg) : FnG P w K mg base 2 (a_is_warmth K) ["thing"] (spWhl K 0 400) := by
  refine T.f_is_warmth.ok sc_is_warmth (fun vs H Q E h => ?_) (fun cdv A outer s H vs Q E hgu hr h => ⟨_, (pss_one (ps_ret (ge_call (ok_is_whole T) hgu (hr.mono (by decide)) rfl T.g_is_whole T.k_is_whole T.b_is_whole .nil (fun _ => pass_takes (takes_of rfl rfl rfl rfl)) (pa_cons (pv 0) (pa_cons pe_int (pa_cons (pe_gi rfl T.c_MOST_WARMTH) pa_nil)))))), ?_⟩)
  · obtain ⟨v, R, D, rfl, _⟩ := h
    rfl
  · obtain ⟨v, R, D, rfl, hI, mt, go⟩ := h
    wtm_at "go"
    wtm_at "sg"
    exact whole_use hI mt go
theorem ok_is_cold {P : Program} {w : World} {K : PySem.W.Frag} {mg : Str → Option Value} {base : Heap} (T : Tx K mg) : FnG P w K mg base 2 (a_is_cold K) ["thing"] (spWhl K (-60) 60) := by
  refine T.f_is_cold.ok sc_is_cold (fun vs H Q E h => ?_) (fun cdv A outer s H vs Q E hgu hr h => ⟨_, (pss_one (ps_ret (ge_call (ok_is_whole T) hgu (hr.mono (by decide)) rfl T.g_is_whole T.k_is_whole T.b_is_whole .nil (fun _ => pass_takes (takes_of rfl rfl rfl rfl)) (pa_cons (pv 0) (pa_cons (pe_op op_sub pe_int (pe_gi rfl T.c_MOST_COLD)) (pa_cons (pe_gi rfl T.c_MOST_COLD) pa_nil)))))), ?_⟩)
  · obtain ⟨v, R, D, rfl, _⟩ := h
    rfl
  · obtain ⟨v, R, D, rfl, hI, mt, go⟩ := h
    wtm_at "go"
    wtm_at "sg"
    exact whole_use hI mt go
/-- a thing handed in as a week, and whether it is one -/
inductive Itm (K : PySem.W.Frag) (D : Hp) : V → Bool → Prop
  | two {q : Addr} {a b : V} (e : D q = some (.tup [a, b])) (ta : Th K D a) (tb : Th K D b) : Itm K D (.ref q) (wholeB a 0 400 && wholeB b (-60) 60)
  | tup {q : Addr} {xs : List V} (e : D q = some (.tup xs)) (l : xs.length ≠ 2) : Itm K D (.ref q) false
  | oth {v : V} {k : Knd} (kn : Kn K D v k) (nt : k.is "tuple" = false) : Itm K D v false
theorem Itm.mono {K : PySem.W.Frag} {D D' : Hp} {v : V} {b : Bool} (h : Itm K D v b) (x : Ex D D') : Itm K D' v b := by
  cases h with
  | two e ta tb => exact .two (x _ _ e) (ta.mono x) (tb.mono x)
  | tup e l => exact .tup (x _ _ e) l
  | oth kn nt => exact .oth (kn.mono x) nt
inductive ItL (K : PySem.W.Frag) (D : Hp) : List V → List Bool → Prop
  | nil : ItL K D [] []
  | cons {v : V} {b : Bool} {vs : List V} {bs : List Bool} (h : Itm K D v b) (l : ItL K D vs bs) : ItL K D (v :: vs) (b :: bs)
section
variable {K : PySem.W.Frag} {D D' : Hp}
theorem ItL.mono (x : Ex D D') : ∀ {vs : List V} {bs : List Bool}, ItL K D vs bs → ItL K D' vs bs
  | _, _, .nil => .nil
  | _, _, .cons h l => .cons (h.mono x) (ItL.mono x l)
theorem ItL.length : ∀ {vs : List V} {bs : List Bool}, ItL K D vs bs → vs.length = bs.length
  | _, _, .nil => rfl
  | _, _, .cons _ l => congrArg Nat.succ (ItL.length l)
theorem ItL.getV : ∀ {vs : List V} {bs : List Bool} {i : Nat} {v : V}, ItL K D vs bs → vs[i]? = some v → ∃ b, bs[i]? = some b ∧ Itm K D v b
  | _, _, _, _, .nil, e => by simp at e
  | _, _, 0, _, .cons h _, e => by
    simp at e
    subst e
    exact ⟨_, rfl, h⟩
  | _, _, i + 1, _, .cons _ l, e => by
    obtain ⟨b, a, c⟩ := ItL.getV (i := i) l (by simpa using e)
    exact ⟨b, by simpa using a, c⟩
theorem ItL.set {v : V} {b : Bool} (h : Itm K D v b) : ∀ {vs : List V} {bs : List Bool} (i : Nat), ItL K D vs bs → ItL K D (vs.set i v) (bs.set i b)
  | _, _, _, .nil => .nil
  | _, _, 0, .cons _ l => .cons h l
  | _, _, i + 1, .cons g l => .cons g (ItL.set h i l)
theorem pair_of {v : V} (h : Itm K D v true) : ∃ p, PairAt D v p ∧ WOk p := by
  generalize hb : true = b at h
  cases h with
  | @two q a b e ta tb =>
    have hb := hb.symm
    rw [Bool.and_eq_true] at hb
    obtain ⟨i, rfl, i0, i1⟩ := whole_is hb.1
    obtain ⟨j, rfl, j0, j1⟩ := whole_is hb.2
    exact ⟨(i, j), ⟨q, rfl, e⟩, ⟨i0, i1, j0, j1⟩⟩
  | tup e l => cases hb
  | oth kn nt => cases hb
theorem itm_pair {v : V} {p : Int × Int} (h : PairAt D v p) (w : WOk p) : Itm K D v true := by
  obtain ⟨q, rfl, e⟩ := h
  have := Itm.two (K := K) e (Th.kn (.int _)) (Th.kn (.int _))
  rw [whole_ok w.w0 w.w1, whole_ok w.c0 w.c1] at this
  exact this
theorem ItL.pairs : ∀ {vs : List V} {bs : List Bool}, ItL K D vs bs → bs.all id = true → ∃ ns, PairsL D vs ns ∧ ∀ q ∈ ns, WOk q
  | _, _, .nil, _ => ⟨[], .nil, fun _ h => (nomatch h)⟩
  | _, _, .cons (b := b) h l, e => by
    rw [List.all_cons, Bool.and_eq_true] at e
    obtain ⟨ns, a, w⟩ := ItL.pairs l e.2
    have hb : b = true := e.1
    rw [hb] at h
    obtain ⟨p, hp, wp⟩ := pair_of h
    exact ⟨p :: ns, .cons hp a, fun q hq => (List.mem_cons.mp hq).elim (fun e => e ▸ wp) (w q)⟩
theorem ItL.of : ∀ {vs : List V} {ns : List (Int × Int)}, PairsL D vs ns → (∀ q ∈ ns, WOk q) → ItL K D vs (ns.map fun _ => true)
  | _, _, .nil, _ => .nil
  | _, _, .cons h l, w => .cons (itm_pair h (w _ (List.mem_cons_self ..))) (ItL.of l fun q hq => w q (List.mem_cons_of_mem _ hq))
end
/-- whether a list of things is a list of weeks -/
def yrB (bs : List Bool) : Bool := decide (1 ≤ bs.length) && (decide (bs.length ≤ 52) && bs.all id)
def spPairG (K : PySem.W.Frag) : Sp := fun vs H Q _ => ∃ (v : V) (b : Bool) (R : Cells) (D : Hp), vs = [v] ∧ HI H R D ∧ Itm K D v b ∧ ∀ H', HI H' R D → Q (.bl b) H'
theorem ok_is_pair {P : Program} {w : World} {K : PySem.W.Frag} {mg : Str → Option Value} {base : Heap} (T : Tx K mg) : FnG P w K mg base 3 (a_is_pair K) ["thing"] (spPairG K) := by
  refine T.f_is_pair.ok sc_is_pair (fun vs H Q E h => ?_) (fun cdv A outer s H vs Q E hgu hr h => ⟨_, (pss_one (ps_ret (pe_and (pe_callB (show CallR _ (.builtin "isinstance") (RIsi K) from call_isiU) (by rfl) T.n_isinstance boot_isinstance (pa_cons (pv 0) (pa_cons (pe_bltn (v := .ty "tuple") (by rfl) T.n_tuple boot_tuple rfl) pa_nil))) (pe_and (pe_cmpR (op_eqU hr.units) (pe_callB (call_lenU) (by rfl) T.n_len boot_len (pa_cons (pv 0) pa_nil)) pe_int (nomark _)) (pe_and (ge_call (ok_is_warmth T) hgu (hr.mono (by decide)) rfl T.g_is_warmth T.k_is_warmth T.b_is_warmth .nil (fun _ => pass_takes (takes_of rfl rfl rfl rfl)) (pa_cons (pe_ix ix_U (pv 0) pe_int (fun _ _ => rfl)) pa_nil)) (pe_one (ge_call (ok_is_cold T) hgu (hr.mono (by decide)) rfl T.g_is_cold T.k_is_cold T.b_is_cold .nil (fun _ => pass_takes (takes_of rfl rfl rfl rfl)) (pa_cons (pe_ix ix_U (pv 0) pe_int (fun _ _ => rfl)) pa_nil)))))))), ?_⟩)
  · obtain ⟨v, b, R, D, rfl, _⟩ := h
    rfl
  · obtain ⟨v, b, R, D, rfl, hI, it, go⟩ := h
    cases it with
    | @two q a b eq ta tb =>
      wtm_at "go"
      wtm_at "sg"
      refine if_yes rfl ?_
      wtm_at "sg"
      refine whl_use hI ta.m (fun H1 hI1 => ?_)
      cases hb : wholeB a 0 400 with
      | false =>
        rw [hb] at go
        wtm_at "sg"
        exact go _ hI1
      | true =>
        rw [hb] at go
        wtm_at "sg"
        refine whl_use hI1 tb.m (fun H2 hI2 => ?_)
        exact go _ hI2
    | @tup q xs eq l =>
      wtm_at "go"
      wtm_at "sg"
      exact go _ hI
    | @oth v k kn nt =>
      wtm_at "go"
      wtm_at "sg"
      exact go _ hI
def yrF (nl td : Addr) : List (Str × V) := [("kept_normal", .ref nl), ("kept_told", .ref td)]
def spYearInit (K : PySem.W.Frag) : Sp := fun vs H Q E => ∃ (x dx : Addr) (v : V) (R : Cells) (D : Hp), vs = [.ref x, v] ∧ HI H ((x, .ins (He.ga K "Year") dx []) :: R) D ∧
  ((∃ (p : Addr) (xs : List V) (bs : List Bool), v = .ref p ∧ Sq3 R D p xs ∧ ItL K D xs bs ∧ xs.length ≤ 200 ∧
    (yrB bs = true → ∀ nl td H' D', HI H' ((td, .dK []) :: (x, .ins (He.ga K "Year") dx (yrF nl td)) :: R) D' → Ex D D' → D' nl = some (.lst xs) → Q .non H') ∧
    (yrB bs = false → Outs E (He.ga K "NoYear") v ((x, .ins (He.ga K "Year") dx []) :: R) D)) ∨
   ∃ k, Kn K D v k ∧ k.is "list" = false ∧ k.is "tuple" = false ∧ Outs E (He.ga K "NoYear") v ((x, .ins (He.ga K "Year") dx []) :: R) D)
set_option maxHeartbeats 1000000 in
theorem ok_Year_init {P : Program} {w : World} {K : PySem.W.Frag} {mg : Str → Option Value} {base : Heap} (T : Tx K mg) : FnG P w K mg base 4 (a_Year_init K) ["self", "normal"] (spYearInit K) := by
  refine T.f_Year_init.ok sc_Year_init (fun vs H Q E h => ?_) (fun cdv A outer s H vs Q E hgu hr h => ⟨_, (pss_cons (ps_if (PW.pt (pw_or (pt_not (pt_val (pe_callB (show CallR _ (.builtin "isinstance") (RIsiT K) from call_isiTU) (by rfl) T.n_isinstance boot_isinstance (pa_cons (pv 1) (pa_cons (pe_tup (pa_cons (pe_bltn (v := .ty "list") (by rfl) T.n_list boot_list rfl) (pa_cons (pe_bltn (v := .ty "tuple") (by rfl) T.n_tuple boot_tuple rfl) pa_nil))) pa_nil))))) (pw_or1 (pt_not (pt_chain (op_le) (op_le) pe_int (pe_callB (call_lenU) (by rfl) T.n_len boot_len (pa_cons (pv 1) pa_nil)) (pe_gi rfl T.c_MOST_WEEKS)))))) (pss_one (ps_raiseX rfl (takes_of rfl rfl rfl rfl) T.x_NoYear (ok_NoYear_init T) T.b_NoYear_init (hr.mono (by decide)) rfl (pa_cons (pv 1) pa_nil))) pss_nil)
 (pss_cons (ps_if (pt_not (pt_val (pe_callB (call_allU rfl) (by rfl) T.n_all boot_all (pa_cons (pe_lc (own := [("thing", 2)]) rfl sc_Year_init.nd (pi_seq (pv 1)) (blkOk_by (own := [("thing", 2)]) (N := ["self", "normal", "thing"]) (sc := defScope s_Year_init) (by decide +kernel)) (fun _ _ _ _ _ => (pg_name (i := 2) sc_Year_init.nd rfl (by first | exact Or.inl rfl | exact Or.inr rfl))) (fun _ _ _ _ _ => pts_nil) (fun _ _ _ _ _ => (ge_call (ok_is_pair T) hgu (hr.mono (by decide)) rfl T.g_is_pair T.k_is_pair T.b_is_pair .nil (fun _ => pass_none) (pa_cons (pv 2) pa_nil)))) pa_nil)))) (pss_one (ps_raiseX rfl (takes_of rfl rfl rfl rfl) T.x_NoYear (ok_NoYear_init T) T.b_NoYear_init (hr.mono (by decide)) rfl (pa_cons (pv 1) pa_nil))) pss_nil)
 (pss_cons (ps_fld (pv 0) (pe_callTy call_listU (by rfl) T.n_list boot_list (pa_cons (pv 1) pa_nil)) rfl)
 (pss_one (ps_fld (pv 0) (pe_dnewM) rfl))))), ?_⟩)
  · obtain ⟨x, dx, v, R, D, rfl, _⟩ := h
    rfl
  · obtain ⟨x, dx, v, R, D, rfl, hI, h⟩ := h
    have pc := T.pc_Year
    rcases h with ⟨p, xs, bs, rfl, sq, il, lx, good, bad⟩ | ⟨k, kn, kl, kt, bad⟩
    · have hl := il.length
      have sq' : Sq3 ((x, .ins (He.ga K "Year") dx []) :: R) D p xs := sq.sub fun _ q => List.mem_cons_of_mem _ q
      wtm_at "go"
      wtm_at "sg"
      refine Sq3.isi (by assumption) (sq'.mono (by wtm_at "ex")) (by wtm_at "hp") ?_
      wtm_at "sg"
      refine Sq3.len (by assumption) (sq'.mono (by wtm_at "ex")) ?_
      by_cases hlen : 1 ≤ bs.length ∧ bs.length ≤ 52
      · obtain ⟨h0, h1⟩ := hlen
        wtm_at "sg"
        rename_i pT H1 D1 hI1 x1 eT
        refine lc_seq (sq'.mono x1) (fun i acc R' D' => R' = _ ∧ D' = _ ∧ acc = (bs.take i).map V.bl) hI1 ⟨rfl, rfl, rfl⟩ (fun i acc R' D' q => ?_) (fun L i acc v R' D' H' hv hI' q hl2 => ?_) (fun L acc R' D' H' hI' q hl2 => ?_)
        · obtain ⟨rfl, rfl, rfl⟩ := q
          exact ⟨fun _ q => q, Ex.refl _⟩
        · obtain ⟨rfl, rfl, rfl⟩ := q
          obtain ⟨b, e1, ib⟩ := il.getV hv
          have hi : i < xs.length := (List.getElem?_eq_some_iff.mp hv).1
          wtm_at "sg"
          refine ⟨v, b, _, _, rfl, hI', ib.mono x1, fun H2 hI2 => ?_⟩
          exact le_mk hI2 ⟨rfl, rfl, by rw [take_more e1, List.map_append]; rfl⟩ hl2 (by omega)
        · obtain ⟨rfl, rfl, rfl⟩ := q
          refine RAll.mk (hI'.get (List.mem_cons_self ..)) ?_
          rw [hl, List.take_of_length_le (Nat.le_refl _)]
          have hI2 := hI'.drop
          have eb : yrB bs = bs.all id := by unfold yrB; rw [decide_eq_true h0, decide_eq_true h1]; rfl
          cases ha : bs.all id with
          | true =>
            wtm_at "sg"
            refine Sq3.list hI2 (sq'.mono x1) ?_
            wtm_at "sg"
            exact good (eb.trans ha) _ _ _ _ (by wtm_at "hi") (by wtm_at "ex") (by assumption)
          | false =>
            wtm_at "sg"
            exact bad (eb.trans ha) _ _ _ (by assumption) (by wtm_at "ex") (by wtm_at "dat")
      · have eb : yrB bs = false := by
          unfold yrB
          by_cases h0 : 1 ≤ bs.length
          · rw [decide_eq_false (fun h1 => hlen ⟨h0, h1⟩)]; simp
          · rw [decide_eq_false h0]; rfl
        wtm_at "sg"
        refine if_dec (fun h0 => ?_) (fun h0 => ?_)
        · wtm_at "sg"
          exact bad eb _ _ _ (by assumption) (by wtm_at "ex") (by wtm_at "dat")
        · wtm_at "sg"
          exact bad eb _ _ _ (by assumption) (by wtm_at "ex") (by wtm_at "dat")
    · wtm_at "go"
      wtm_at "sg"
      refine RIsiT.ty (ns := ["list", "tuple"]) (HI.kn (by assumption) (kn.mono (by assumption))) (by wtm_at "hp") (by decide +kernel) ?_
      rw [show (["list", "tuple"].any k.is) = false by simp [kl, kt]]
      wtm_at "sg"
      exact bad _ _ _ (by assumption) (by wtm_at "ex") (by wtm_at "dat")
theorem make_yr {K : PySem.W.Frag} {x dx p : Addr} {xs : List V} {ns : List (Int × Int)} {R : Cells} {D H : Hp} {P : Hp → Prop} {E : XK} (hI : HI H ((x, .ins (He.ga K "Year") dx []) :: (dx, .own x) :: R) D) (sq : Sq3 R D p xs) (pl : PairsL D xs ns) (l0 : 1 ≤ ns.length) (l1 : ns.length ≤ 52) (wo : ∀ q ∈ ns, WOk q)
    (go : ∀ nl td H' D', HI H' ((td, .dK []) :: R) D' → Ex D D' → IsYr K D' x nl td ns → P H') : spYearInit K [.ref x, .ref p] H (fun v H2 => v = .non ∧ P H2) E := by
  have hl := pl.length
  have ea : ((ns.map fun _ => true).all id) = true := by simp
  have eb : yrB (ns.map fun _ => true) = true := by
    unfold yrB
    rw [ea, List.length_map, decide_eq_true l0, decide_eq_true l1]; rfl
  refine ⟨x, dx, _, _, D, rfl, hI, .inl ⟨p, xs, _, rfl, sq.sub fun _ q => List.mem_cons_of_mem _ q, ItL.of pl wo, by omega, fun _ nl td H' D' h x1 e => ⟨rfl, ?_⟩, fun h => by rw [eb] at h; cases h⟩⟩
  have h2 : HI H' ((x, .ins (He.ga K "Year") dx (yrF nl td)) :: (dx, .own x) :: (td, .dK []) :: R) D' := h.dn2
  obtain ⟨D2, h3, x2, e2⟩ := h2.freezeI
  exact go nl td _ _ h3 (x1.trans x2) ⟨⟨dx, e2⟩, ⟨xs, x2 _ _ e, pl.mono (x1.trans x2)⟩, l0, l1, wo⟩
def spNeedWeek (K : PySem.W.Frag) : Sp := fun vs H Q E => ∃ (a : Addr) (v : V) (f : Int → Int × Int) (n : Int) (R : Cells) (D : Hp), vs = [.ref a, v] ∧ HI H R D ∧ YrAt K R D a f n ∧ Mt K R D v ∧
  (wholeB v 1 n = true → ∀ H', HI H' R D → Q .non H') ∧ (wholeB v 1 n = false → Outs E (He.ga K "NoWeek") v R D)
theorem ok_Year_need_week {P : Program} {w : World} {K : PySem.W.Frag} {mg : Str → Option Value} {base : Heap} (T : Tx K mg) : FnG P w K mg base 4 (a_Year_need_week K) ["self", "week"] (spNeedWeek K) := by
  refine T.f_Year_need_week.ok sc_Year_need_week (fun vs H Q E h => ?_) (fun cdv A outer s H vs Q E hgu hr h => ⟨_, (pss_one (ps_if (pt_not (pt_val (ge_call (ok_is_whole T) hgu (hr.mono (by decide)) rfl T.g_is_whole T.k_is_whole T.b_is_whole .nil (fun _ => pass_takes (takes_of rfl rfl rfl rfl)) (pa_cons (pv 1) (pa_cons pe_int (pa_cons (pe_callB (call_lenU) (by rfl) T.n_len boot_len (pa_cons (pe_fld (pv 0) rfl) pa_nil)) pa_nil)))))) (pss_one (ps_raiseX rfl (takes_of rfl rfl rfl rfl) T.x_NoWeek (ok_NoWeek_init T) T.b_NoWeek_init (hr.mono (by decide)) rfl (pa_cons (pv 1) pa_nil))) pss_nil)), ?_⟩)
  · obtain ⟨a, v, f, n, R, D, rfl, _⟩ := h
    rfl
  · obtain ⟨a, v, f, n, R, D, rfl, hI, yr, mv, good, bad⟩ := h
    have pc := T.pc_Year
    obtain ⟨nl, td, ns, kvs, m, ⟨⟨dx, ea⟩, ⟨xs, en, pl⟩, _⟩, mt, told, rfl, hf⟩ := yr
    wtm_at "go"
    wtm_at "sg"
    rw [pl.length]
    refine whole_use hI mv (fun H1 hI1 => ?_)
    wtm_at "sg"
    cases hb : wholeB v 1 (ns.length : Int)
    · wtm_at "sg"
      exact bad hb _ _ _ (by assumption) (by wtm_at "ex") (by wtm_at "dat")
    · wtm_at "sg"
      exact good hb _ hI1
theorem need_week_use {K : PySem.W.Frag} {a : Addr} {v : V} {f : Int → Int × Int} {n : Int} {R : Cells} {D H : Hp} {Q : VK} {E : XK} (hI : HI H R D) (yr : YrAt K R D a f n) (mt : Mt K R D v) (good : wholeB v 1 n = true → ∀ H', HI H' R D → Q .non H') (bad : wholeB v 1 n = false → Outs E (He.ga K "NoWeek") v R D) : spNeedWeek K [.ref a, v] H Q E := ⟨a, v, f, n, R, D, rfl, hI, yr, mt, good, bad⟩
def spPair (K : PySem.W.Frag) : Sp := fun vs H Q _ => ∃ (a : Addr) (k : Int) (f : Int → Int × Int) (n : Int) (R : Cells) (D : Hp), vs = [.ref a, .int k] ∧ HI H R D ∧ YrAt K R D a f n ∧ 1 ≤ k ∧ k ≤ n ∧ ∀ v, PairAt D v (f k) → Q v H
theorem ok_Year_pair {P : Program} {w : World} {K : PySem.W.Frag} {mg : Str → Option Value} {base : Heap} (T : Tx K mg) : FnG P w K mg base 1 (a_Year_pair K) ["self", "week"] (spPair K) := by
  refine T.f_Year_pair.ok sc_Year_pair (fun vs H Q E h => ?_) (fun cdv A outer s H vs Q E hgu hr h => ⟨_, (pss_one (ps_ret (pe_dget2 (by exact hu1 hr) (pe_fld (pv 0) rfl) (pv 1) (pe_ix ix_U (pe_fld (pv 0) rfl) (pe_op op_sub (pv 1) pe_int) (fun _ _ => rfl)) ⟨rfl, rfl, rfl, rfl⟩))), ?_⟩)
  · obtain ⟨a, k, f, n, R, D, rfl, _⟩ := h
    rfl
  · obtain ⟨a, k, f, n, R, D, rfl, hI, yr, k0, k1, go⟩ := h
    have pc := T.pc_Year
    obtain ⟨nl, td, ns, kvs, m, ⟨⟨dx, ea⟩, ⟨xs, en, pl⟩, _⟩, mt, told, rfl, hf⟩ := yr
    have hk := hf k k0 k1
    have hlt : (k - 1).toNat < ns.length := by omega
    obtain ⟨v, e1, pv⟩ := pl.get (List.getElem?_eq_getElem hlt)
    have et := hI.get mt
    wtm_at "go"
    wtm_at "sg"
    refine RIx.l (hI.dat en) ((atI_ofI (by omega)).trans e1) ?_
    wtm_at "sg"
    unfold stand at hk
    cases em : m k with
    | none =>
      rw [told.no k em]
      rw [em, List.getD_eq_getElem?_getD, List.getElem?_eq_getElem hlt] at hk
      exact go v (by rw [hk]; exact pv)
    | some p =>
      obtain ⟨u, e2, pu, _⟩ := told.yes k p em
      rw [e2]
      rw [em] at hk
      exact go u (by rw [hk]; exact pu)
theorem pair_use {K : PySem.W.Frag} {a : Addr} {k : Int} {f : Int → Int × Int} {n : Int} {R : Cells} {D H : Hp} {Q : VK} {E : XK} (hI : HI H R D) (yr : YrAt K R D a f n) (k0 : 1 ≤ k) (k1 : k ≤ n) (go : ∀ v, PairAt D v (f k) → Q v H) : spPair K [.ref a, .int k] H Q E := ⟨a, k, f, n, R, D, rfl, hI, yr, k0, k1, go⟩
def spWc (K : PySem.W.Frag) (g : Int × Int → Int) : Sp := fun vs H Q E => ∃ (a : Addr) (v : V) (f : Int → Int × Int) (n : Int) (R : Cells) (D : Hp), vs = [.ref a, v] ∧ HI H R D ∧ YrAt K R D a f n ∧ Mt K R D v ∧
  (∀ k, v = .int k → 1 ≤ k → k ≤ n → ∀ H', HI H' R D → Q (.int (g (f k))) H') ∧ (wholeB v 1 n = false → Outs E (He.ga K "NoWeek") v R D)
theorem ok_Year_warmth {P : Program} {w : World} {K : PySem.W.Frag} {mg : Str → Option Value} {base : Heap} (T : Tx K mg) : FnG P w K mg base 5 (a_Year_warmth K) ["self", "week"] (spWc K Prod.fst) := by
  refine T.f_Year_warmth.ok sc_Year_warmth (fun vs H Q E h => ?_) (fun cdv A outer s H vs Q E hgu hr h => ⟨_, (pss_cons (ps_expr (ge_meth (pv 0) T.cl_Year T.m_Year_need_week (ok_Year_need_week T) hgu (hr.mono (by decide)) T.b_Year_need_week .nil (fun _ => pass_takes (takes_of rfl rfl rfl rfl)) (pa_cons (pv 1) pa_nil)))
 (pss_one (ps_ret (pe_ix ix_U (ge_meth (pv 0) T.cl_Year T.m_Year_pair (ok_Year_pair T) hgu (hr.mono (by decide)) T.b_Year_pair .nil (fun _ => pass_takes (takes_of rfl rfl rfl rfl)) (pa_cons (pv 1) pa_nil)) pe_int (fun _ _ => rfl))))), ?_⟩)
  · obtain ⟨a, v, f, n, R, D, rfl, _⟩ := h
    rfl
  · obtain ⟨a, v, f, n, R, D, rfl, hI, yr, mv, good, bad⟩ := h
    obtain ⟨nl, td, ns, kvs, m, ⟨⟨dx, ea⟩, _⟩, _⟩ := id yr
    wtm_at "go"
    wtm_at "sg"
    refine need_week_use hI yr mv (fun hb H1 hI1 => ?_) bad
    obtain ⟨k, rfl, k0, k1⟩ := whole_is hb
    wtm_at "sg"
    refine pair_use hI1 yr k0 k1 (fun v pv => ?_)
    obtain ⟨q, rfl, eq⟩ := pv
    wtm_at "sg"
    exact good k rfl k0 k1 _ hI1
theorem ok_Year_cold {P : Program} {w : World} {K : PySem.W.Frag} {mg : Str → Option Value} {base : Heap} (T : Tx K mg) : FnG P w K mg base 5 (a_Year_cold K) ["self", "week"] (spWc K Prod.snd) := by
  refine T.f_Year_cold.ok sc_Year_cold (fun vs H Q E h => ?_) (fun cdv A outer s H vs Q E hgu hr h => ⟨_, (pss_cons (ps_expr (ge_meth (pv 0) T.cl_Year T.m_Year_need_week (ok_Year_need_week T) hgu (hr.mono (by decide)) T.b_Year_need_week .nil (fun _ => pass_takes (takes_of rfl rfl rfl rfl)) (pa_cons (pv 1) pa_nil)))
 (pss_one (ps_ret (pe_ix ix_U (ge_meth (pv 0) T.cl_Year T.m_Year_pair (ok_Year_pair T) hgu (hr.mono (by decide)) T.b_Year_pair .nil (fun _ => pass_takes (takes_of rfl rfl rfl rfl)) (pa_cons (pv 1) pa_nil)) pe_int (fun _ _ => rfl))))), ?_⟩)
  · obtain ⟨a, v, f, n, R, D, rfl, _⟩ := h
    rfl
  · obtain ⟨a, v, f, n, R, D, rfl, hI, yr, mv, good, bad⟩ := h
    obtain ⟨nl, td, ns, kvs, m, ⟨⟨dx, ea⟩, _⟩, _⟩ := id yr
    wtm_at "go"
    wtm_at "sg"
    refine need_week_use hI yr mv (fun hb H1 hI1 => ?_) bad
    obtain ⟨k, rfl, k0, k1⟩ := whole_is hb
    wtm_at "sg"
    refine pair_use hI1 yr k0 k1 (fun v pv => ?_)
    obtain ⟨q, rfl, eq⟩ := pv
    wtm_at "sg"
    exact good k rfl k0 k1 _ hI1
def putM (m : Int → Option (Int × Int)) (k : Int) (p : Option (Int × Int)) : Int → Option (Int × Int) := fun j => if j = k then p else m j
theorem Told.put {D : Hp} {kvs : List (Key × V)} {m : Int → Option (Int × Int)} {n k : Int} {p : Int × Int} {v : V} (h : Told D kvs m n) (pv : PairAt D v p) (w : WOk p) (k0 : 1 ≤ k) (k1 : k ≤ n) : Told D (putK kvs (.inl k) v) (putM m k (some p)) n := by
  have key : ∀ j : Int, (Sum.inl j : Key) = Sum.inl k ↔ j = k := fun j => ⟨fun e => Sum.inl.inj e, fun e => by rw [e]⟩
  refine ⟨fun j e => ?_, fun j q e => ?_, ?_⟩
  · unfold putM at e
    by_cases hj : j = k
    · rw [if_pos hj] at e
      cases e
    · rw [if_neg hj] at e
      rw [valV_put, if_neg (fun q => hj ((key j).mp q))]
      exact h.no j e
  · unfold putM at e
    by_cases hj : j = k
    · rw [if_pos hj] at e
      cases e
      rw [hj, valV_put, if_pos rfl]
      exact ⟨v, rfl, pv, w, k0, k1⟩
    · rw [if_neg hj] at e
      rw [valV_put, if_neg (fun q => hj ((key j).mp q))]
      exact h.yes j q e
  · obtain ⟨ks, e1, nd, b⟩ := h.ks
    cases ev : valV kvs (.inl k) with
    | none =>
      rw [putK_new v ev]
      refine ⟨ks ++ [k], by rw [List.map_append, List.map_append, e1]; rfl, ?_, ?_⟩
      · have nk : k ∉ ks := fun hk => by
          have := valV_not ev
          rw [e1] at this
          exact this (List.mem_map.mpr ⟨k, hk, rfl⟩)
        rw [List.nodup_append]
        exact ⟨nd, by simp, fun a ha b hb e => by rw [List.mem_singleton.mp hb] at e; rw [e] at ha; exact nk ha⟩
      · intro j hj
        rcases List.mem_append.mp hj with q | q
        · exact b j q
        · rw [List.mem_singleton.mp q]
          exact ⟨k0, k1⟩
    | some u =>
      refine ⟨ks, ?_, nd, b⟩
      rw [← e1]
      have : (kvs.any fun kv => decide (kv.1 = (Sum.inl k : Key))) = true := by rw [valV_any, ev]; rfl
      unfold putK
      rw [if_pos this, List.map_map]
      refine List.map_congr_left fun q _ => ?_
      show (if q.1 = (Sum.inl k : Key) then (q.1, v) else q).1 = q.1
      by_cases e : q.1 = (Sum.inl k : Key)
      · rw [if_pos e]
      · rw [if_neg e]
def spTell (K : PySem.W.Frag) : Sp := fun vs H Q E => ∃ (a nl td : Addr) (ns : List (Int × Int)) (kvs : List (Key × V)) (m : Int → Option (Int × Int)) (v w c : V) (R : Cells) (D : Hp), vs = [.ref a, v, w, c] ∧ HI H ((td, .dK kvs) :: R) D ∧ IsYr K D a nl td ns ∧ Told D kvs m ns.length ∧
  Mt K ((td, .dK kvs) :: R) D v ∧ Mt K ((td, .dK kvs) :: R) D w ∧ Mt K ((td, .dK kvs) :: R) D c ∧
  (∀ (k wi : Int) (ci : Option Int), v = .int k → w = .int wi → c = oV ci → 1 ≤ k → k ≤ ns.length → 0 ≤ wi → wi ≤ 400 → (∀ x, ci = some x → -60 ≤ x ∧ x ≤ 60) → ∀ kvs' H' D', HI H' ((td, .dK kvs') :: R) D' → Ex D D' → Told D' kvs' (putM m k (some (wi, ci.getD (stand ns m k).2))) ns.length → Q .non H') ∧
  (wholeB v 1 ns.length = false → Outs E (He.ga K "NoWeek") v ((td, .dK kvs) :: R) D) ∧ (wholeB v 1 ns.length = true → wholeB w 0 400 = false → Outs E (He.ga K "NoNumber") w ((td, .dK kvs) :: R) D) ∧
  (wholeB v 1 ns.length = true → wholeB w 0 400 = true → c ≠ .non → wholeB c (-60) 60 = false → Outs E (He.ga K "NoNumber") c ((td, .dK kvs) :: R) D)
theorem nd_le : ∀ (n : Nat) (l : List Int), l.Nodup → (∀ k ∈ l, 1 ≤ k ∧ k ≤ (n : Int)) → l.length ≤ n
  | 0, l, _, h => by
    cases l with
    | nil => exact Nat.le_refl _
    | cons a r =>
      obtain ⟨a0, a1⟩ := h a (List.mem_cons_self ..)
      omega
  | n + 1, l, nd, h => by
    by_cases hm : ((n + 1 : Nat) : Int) ∈ l
    · have ih := nd_le n (l.erase ((n + 1 : Nat) : Int)) (nd.erase _) fun k hk => by
        obtain ⟨ne, hk2⟩ := (nd.mem_erase_iff).mp hk
        obtain ⟨b0, b1⟩ := h k hk2
        exact ⟨b0, by omega⟩
      rw [List.length_erase_of_mem hm] at ih
      omega
    · have ih := nd_le n l nd fun k hk => by
        obtain ⟨b0, b1⟩ := h k hk
        refine ⟨b0, ?_⟩
        have : k ≠ ((n + 1 : Nat) : Int) := fun e => hm (e ▸ hk)
        omega
      omega
theorem Told.len {D : Hp} {kvs : List (Key × V)} {m : Int → Option (Int × Int)} {n : Nat} (h : Told D kvs m n) : kvs.length ≤ n := by
  obtain ⟨ks, e, nd, b⟩ := h.ks
  have : kvs.length = ks.length := by
    have := congrArg List.length e
    rwa [List.length_map, List.length_map] at this
  rw [this]
  exact nd_le n ks nd b
theorem IsYr.at {K : PySem.W.Frag} {R : Cells} {D : Hp} {a nl td : Addr} {ns : List (Int × Int)} {kvs : List (Key × V)} {m : Int → Option (Int × Int)} (i : IsYr K D a nl td ns) (mm : ((td, HO.dK kvs) : Addr × HO) ∈ R) (t : Told D kvs m ns.length) : YrAt K R D a (stand ns m) ns.length := ⟨nl, td, ns, kvs, m, i, mm, t, rfl, fun _ _ _ => rfl⟩
set_option maxHeartbeats 1000000 in
theorem ok_Year_tell {P : Program} {w : World} {K : PySem.W.Frag} {mg : Str → Option Value} {base : Heap} (T : Tx K mg) : FnG P w K mg base 5 (a_Year_tell K) ["self", "week", "warmth", "cold"] (spTell K) := by
  refine T.f_Year_tell.ok sc_Year_tell (fun vs H Q E h => ?_) (fun cdv A outer s H vs Q E hgu hr h => ⟨_, (pss_cons (ps_expr (ge_meth (pv 0) T.cl_Year T.m_Year_need_week (ok_Year_need_week T) hgu (hr.mono (by decide)) T.b_Year_need_week .nil (fun _ => pass_takes (takes_of rfl rfl rfl rfl)) (pa_cons (pv 1) pa_nil)))
 (pss_cons (ps_if (pt_not (pt_val (ge_call (ok_is_warmth T) hgu (hr.mono (by decide)) rfl T.g_is_warmth T.k_is_warmth T.b_is_warmth .nil (fun _ => pass_takes (takes_of rfl rfl rfl rfl)) (pa_cons (pv 2) pa_nil)))) (pss_one (ps_raiseX rfl (takes_of rfl rfl rfl rfl) T.x_NoNumber (ok_NoNumber_init T) T.b_NoNumber_init (hr.mono (by decide)) rfl (pa_cons (pv 2) pa_nil))) pss_nil)
 (pss_cons (ps_if (PW.pt (pw_and (pt_cmpR op_isnU (pv 3) pe_non (nomark _)) (pw_and1 (pt_not (pt_val (ge_call (ok_is_cold T) hgu (hr.mono (by decide)) rfl T.g_is_cold T.k_is_cold T.b_is_cold .nil (fun _ => pass_takes (takes_of rfl rfl rfl rfl)) (pa_cons (pv 3) pa_nil))))))) (pss_one (ps_raiseX rfl (takes_of rfl rfl rfl rfl) T.x_NoNumber (ok_NoNumber_init T) T.b_NoNumber_init (hr.mono (by decide)) rfl (pa_cons (pv 3) pa_nil))) pss_nil)
 (pss_cons (ps_if (pt_cmpR op_isU (pv 3) pe_non (nomark _)) (pss_one (ps_set (i := 3) sc_Year_tell.nd rfl (Or.inl rfl) (pe_ix ix_U (ge_meth (pv 0) T.cl_Year T.m_Year_pair (ok_Year_pair T) hgu (hr.mono (by decide)) T.b_Year_pair .nil (fun _ => pass_takes (takes_of rfl rfl rfl rfl)) (pa_cons (pv 1) pa_nil)) pe_int (fun _ _ => rfl)))) pss_nil)
 (pss_one (ps_dput (by exact hu1 hr) (pe_fld (pv 0) rfl) (pv 1) (pe_tup (pa_cons (pv 2) (pa_cons (pv 3) pa_nil))) rfl)))))), ?_⟩)
  · obtain ⟨a, nl, td, ns, kvs, m, v, w, c, R, D, rfl, _⟩ := h
    rfl
  · obtain ⟨a, nl, td, ns, kvs, m, v, w, c, R, D, rfl, hI, iy, told, mv, mw, mc, good, bad1, bad2, bad3⟩ := h
    have pc := T.pc_Year
    have yr := iy.at (R := (td, .dK kvs) :: R) (List.mem_cons_self ..) told
    obtain ⟨⟨dx, ea⟩, ⟨xs, en, pl⟩, l0, l1, wo⟩ := id iy
    have kl := told.len
    wtm_at "go"
    wtm_at "sg"
    refine need_week_use hI yr mv (fun hb H1 hI1 => ?_) bad1
    obtain ⟨k, rfl, k0, k1⟩ := whole_is hb
    wtm_at "sg"
    refine whl_use hI1 mw (fun H2 hI2 => ?_)
    wtm_at "sg"
    cases hw : wholeB w 0 400 with
    | false =>
      wtm_at "sg"
      exact bad2 hb hw _ _ _ (by assumption) (by wtm_at "ex") (by wtm_at "dat")
    | true =>
      obtain ⟨wi, rfl, w0, w1⟩ := whole_is hw
      wtm_at "sg"
      by_cases hc : c = .non
      · subst hc
        wtm_at "sg"
        refine pair_use hI2 yr k0 k1 (fun u pu => ?_)
        obtain ⟨q, rfl, eq⟩ := pu
        wtm_at "sg"
        rename_i pn H3 D3 hI3 x3 en3 H4 hI4
        have pv : PairAt D3 (.ref pn) (wi, (stand ns m k).2) := ⟨pn, rfl, en3⟩
        have sk := yr.ok k0 k1
        exact good k wi none rfl rfl rfl k0 k1 w0 w1 (fun _ e => by cases e) _ _ _ hI4 (by wtm_at "ex") ((told.mono (by wtm_at "ex")).put pv ⟨w0, w1, sk.c0, sk.c1⟩ k0 k1)
      · wtm_at "sg"
        refine whl_use hI2 mc (fun H3 hI3 => ?_)
        wtm_at "sg"
        cases hcb : wholeB c (-60) 60 with
        | false =>
          wtm_at "sg"
          exact bad3 hb hw hc hcb _ _ _ (by assumption) (by wtm_at "ex") (by wtm_at "dat")
        | true =>
          obtain ⟨ci, rfl, c0, c1⟩ := whole_is hcb
          wtm_at "sg"
          rename_i pn H5 D5 hI5 x5 en5 H6 hI6
          have pv : PairAt D5 (.ref pn) (wi, ci) := ⟨pn, rfl, en5⟩
          exact good k wi (some ci) rfl rfl rfl k0 k1 w0 w1 (fun _ e => by cases e; exact ⟨c0, c1⟩) _ _ _ hI6 (by wtm_at "ex") ((told.mono (by wtm_at "ex")).put pv ⟨w0, w1, c0, c1⟩ k0 k1)
theorem tell_use {K : PySem.W.Frag} {a nl td : Addr} {ns : List (Int × Int)} {kvs : List (Key × V)} {m : Int → Option (Int × Int)} {k w c : Int} {R : Cells} {D H : Hp} {Q : VK} {E : XK} (hI : HI H ((td, .dK kvs) :: R) D) (iy : IsYr K D a nl td ns) (t : Told D kvs m ns.length) (k0 : 1 ≤ k) (k1 : k ≤ ns.length) (wo : WOk (w, c))
    (q : ∀ kvs' H' D', HI H' ((td, .dK kvs') :: R) D' → Ex D D' → Told D' kvs' (putM m k (some (w, c))) ns.length → Q .non H') : spTell K [.ref a, .int k, .int w, .int c] H Q E :=
  ⟨a, nl, td, ns, kvs, m, .int k, .int w, .int c, R, D, rfl, hI, iy, t, (Th.kn (.int _)).m, (Th.kn (.int _)).m, (Th.kn (.int _)).m, fun k' w' ci e1 e2 e3 _ _ _ _ _ kvs' H' D' h x t' => by
      cases e1; cases e2
      cases ci with
      | none => cases e3
      | some y => cases e3; exact q _ _ _ h x t', (fun h => absurd h (by rw [whole_ok k0 k1]; decide)), (fun _ h => absurd h (by rw [whole_ok wo.w0 wo.w1]; decide)), (fun _ _ _ h => absurd h (by rw [whole_ok wo.c0 wo.c1]; decide))⟩
theorem valV_drop {kvs : List (Key × V)} {k j : Key} : valV (dropK kvs k) j = if j = k then none else valV kvs j := by
  induction kvs with
  | nil => by_cases h : j = k <;> simp [dropK, valV_nil, h]
  | cons p r ih =>
    by_cases e : p.1 = k
    · rw [dropK_pos e, ih]
      by_cases h : j = k
      · rw [if_pos h, if_pos h]
      · rw [if_neg h, if_neg h, valV_neg (fun z => h (z.symm.trans e))]
    · rw [dropK_neg e]
      by_cases h : p.1 = j
      · rw [valV_pos h, if_neg (fun z => e (h.trans z)), valV_pos h]
      · rw [valV_neg h, ih, valV_neg h]
theorem Told.drop {D : Hp} {kvs : List (Key × V)} {m : Int → Option (Int × Int)} {n k : Int} (h : Told D kvs m n) : Told D (dropK kvs (.inl k)) (putM m k none) n := by
  have key : ∀ j : Int, (Sum.inl j : Key) = Sum.inl k ↔ j = k := fun j => ⟨fun e => Sum.inl.inj e, fun e => by rw [e]⟩
  refine ⟨fun j e => ?_, fun j q e => ?_, ?_⟩
  · rw [valV_drop]
    by_cases hj : j = k
    · rw [if_pos ((key j).mpr hj)]
    · rw [if_neg (fun q => hj ((key j).mp q))]
      unfold putM at e
      rw [if_neg hj] at e
      exact h.no j e
  · unfold putM at e
    by_cases hj : j = k
    · rw [if_pos hj] at e
      cases e
    · rw [if_neg hj] at e
      rw [valV_drop, if_neg (fun q => hj ((key j).mp q))]
      exact h.yes j q e
  · obtain ⟨ks, e1, nd, b⟩ := h.ks
    refine ⟨ks.filter fun j => decide (j ≠ k), ?_, nd.filter _, fun j hj => b j (List.mem_filter.mp hj).1⟩
    unfold dropK
    have : ∀ (kvs : List (Key × V)) (ks : List Int), kvs.map (·.1) = ks.map Sum.inl → (kvs.filter fun kv => decide (kv.1 ≠ (Sum.inl k : Key))).map (·.1) = (ks.filter fun j => decide (j ≠ k)).map Sum.inl := by
      intro kvs
      induction kvs with
      | nil =>
        intro ks e
        cases ks with
        | nil => rfl
        | cons a r => cases e
      | cons p r ih =>
        intro ks e
        cases ks with
        | nil => cases e
        | cons a s =>
          obtain ⟨e1, e2⟩ := List.cons.inj e
          have ih := ih s e2
          by_cases ha : a = k
          · rw [List.filter_cons_of_neg (by simp [show p.1 = Sum.inl a from e1, ha]), List.filter_cons_of_neg (by simp [ha])]
            exact ih
          · rw [List.filter_cons_of_pos (by simp [show p.1 = Sum.inl a from e1]; exact ha), List.filter_cons_of_pos (by simp [ha]), List.map_cons, List.map_cons, ih]
            rw [show p.1 = Sum.inl a from e1]
    exact this kvs ks e1
theorem valV_no {kvs : List (Key × V)} {k : Key} (h : k ∉ kvs.map (·.1)) : valV kvs k = none := by
  induction kvs with
  | nil => rfl
  | cons p r ih =>
    rw [valV_neg (fun e => h (by rw [List.map_cons, e]; exact List.mem_cons_self ..))]
    exact ih fun m => h (by rw [List.map_cons]; exact List.mem_cons_of_mem _ m)
theorem merge_app : ∀ (more acc : List (Key × V)), ((acc ++ more).map (·.1)).Nodup → mergeK acc more = acc ++ more
  | [], acc, _ => by simp [mergeK]
  | p :: r, acc, h => by
    have hp : valV acc p.1 = none := valV_no fun hm => by
      rw [List.map_append, List.nodup_append] at h
      exact h.2.2 _ hm _ (by rw [List.map_cons]; exact List.mem_cons_self ..) rfl
    have e : mergeK acc (p :: r) = mergeK (putK acc p.1 p.2) r := rfl
    rw [e, putK_new _ hp]
    have e2 : acc ++ [(p.1, p.2)] ++ r = acc ++ p :: r := by simp
    rw [merge_app r (acc ++ [(p.1, p.2)]) (by rw [e2]; exact h), e2]
theorem merge_nd {kvs : List (Key × V)} (h : (kvs.map (·.1)).Nodup) : mergeK [] kvs = kvs := merge_app kvs [] h
theorem paired_snoc {α β : Type} {r : α → β → Prop} {x : α} {y : β} (h : r x y) : ∀ {xs : List α} {ys : List β}, Paired r xs ys → Paired r (xs ++ [x]) (ys ++ [y])
  | _, _, .nil => .cons h .nil
  | _, _, .cons a l => .cons a (paired_snoc h l)
theorem valV_ks {g : Int → V} : ∀ {ks : List Int} {k : Int}, valV (ks.map fun j => ((Sum.inl j : Key), g j)) (.inl k) = if k ∈ ks then some (g k) else none
  | [], k => by simp [valV_nil]
  | j :: ks, k => by
    by_cases e : j = k
    · rw [List.map_cons, valV_pos (by rw [e]), if_pos (by rw [e]; exact List.mem_cons_self ..), e]
    · rw [List.map_cons, valV_neg (fun z => e (Sum.inl.inj z)), valV_ks]
      by_cases hm : k ∈ ks
      · rw [if_pos hm, if_pos (List.mem_cons_of_mem _ hm)]
      · rw [if_neg hm, if_neg (fun z => by rcases List.mem_cons.mp z with z | z; exact e z.symm; exact hm z)]
/-- the told weeks, rising -/
def spYTold (K : PySem.W.Frag) : Sp := fun vs H Q _ => ∃ (a nl td : Addr) (ns : List (Int × Int)) (kvs : List (Key × V)) (m : Int → Option (Int × Int)) (R : Cells) (D : Hp), vs = [.ref a] ∧ HI H R D ∧ IsYr K D a nl td ns ∧ ((td, HO.dK kvs) : Addr × HO) ∈ R ∧ Told D kvs m ns.length ∧
  ∀ (p : Addr) (ks : List Int) (kvs' : List (Key × V)) H' D', HI H' R D' → Ex D D' → D' p = some (.dK kvs') → Told D' kvs' m ns.length → kvs'.map (·.1) = ks.map Sum.inl → ks.Pairwise (· ≤ ·) → ks.Nodup → (∀ k, k ∈ ks ↔ (m k).isSome = true) → Q (.ref p) H'
set_option maxHeartbeats 1000000 in
theorem ok_Year_told {P : Program} {w : World} {K : PySem.W.Frag} {mg : Str → Option Value} {base : Heap} (T : Tx K mg) : FnG P w K mg base 1 (a_Year_told K) ["self"] (spYTold K) := by
  refine T.f_Year_told.ok sc_Year_told (fun vs H Q E h => ?_) (fun cdv A outer s H vs Q E hgu hr h => ⟨_, (pss_one (ps_ret (pe_callTy (call_dictO rfl) (by rfl) T.n_dict boot_dict (pa_cons (pe_lc (own := [("week", 1)]) rfl sc_Year_told.nd (pi_list (pe_callB (call_sortI rfl) (by rfl) T.n_sorted boot_sorted (pa_cons (pe_fld (pv 0) rfl) pa_nil))) (blkOk_by (own := [("week", 1)]) (N := ["self", "week"]) (sc := defScope s_Year_told) (by decide +kernel)) (fun _ _ _ _ _ => (pg_name (i := 1) sc_Year_told.nd rfl (by first | exact Or.inl rfl | exact Or.inr rfl))) (fun _ _ _ _ _ => pts_nil) (fun _ _ _ _ _ => (pe_tup (pa_cons (pv 1) (pa_cons (pe_dget (by exact hu1 hr) (pe_fldC (K := K) (pv 0) (by rfl) rfl) (pv 1) (fun _ _ => rfl)) pa_nil))))) pa_nil)))), ?_⟩)
  · obtain ⟨a, nl, td, ns, kvs, m, R, D, rfl, _⟩ := h
    rfl
  · obtain ⟨a, nl, td, ns, kvs, m, R, D, rfl, hI, iy, mm, told, go⟩ := h
    have pc := T.pc_Year
    obtain ⟨⟨dx, ea⟩, ⟨xs, en, pl⟩, l0, l1, wo⟩ := id iy
    have et := hI.get mm
    have kl := told.len
    wtm_at "go"
    wtm_at "sg"
    obtain ⟨ks0, ek, nd0, bk⟩ := id told.ks
    have hl0 : ks0.length ≤ 52 := by
      have := nd_le ns.length ks0 nd0 bk
      omega
    refine RSortI.d et ek (by omega) (fun ys hp hs => ?_)
    have nd : ys.Nodup := hp.nodup_iff.mpr nd0
    have hyl : ys.length ≤ 52 := by rw [hp.length_eq]; exact hl0
    have hin : ∀ k, k ∈ ys ↔ (m k).isSome = true := fun k => by
      rw [hp.mem_iff]
      constructor
      · intro hk
        cases em : m k with
        | some p => rfl
        | none =>
          have := valV_not (told.no k em)
          rw [ek] at this
          exact absurd (List.mem_map.mpr ⟨k, hk, rfl⟩) this
      · intro hk
        obtain ⟨p, em⟩ := Option.isSome_iff_exists.mp hk
        obtain ⟨v, ev, _⟩ := told.yes k p em
        have := valV_in ev
        rw [ek] at this
        obtain ⟨j, hj, e⟩ := List.mem_map.mp this
        rw [← Sum.inl.inj e]
        exact hj
    wtm_at "sg"
    rename_i pl1 H1 D1 hI1 x1 el1
    let g : Int → V := fun k => (valV kvs (.inl k)).getD .non
    refine lc_lst (xs := ys.map V.int) (fun i acc R' D' => ∃ ps : List Addr, R' = R ∧ Ex D1 D' ∧ acc = ps.map V.ref ∧ Paired (fun p (kv : Key × V) => D' p = some (.tup [kV kv.1, kv.2])) ps ((ys.take i).map fun j => ((Sum.inl j : Key), g j))) hI1 ⟨[], rfl, Ex.refl _, rfl, .nil⟩ (fun i acc R' D' q => ?_) (fun L i acc v R' D' H' hv hI' q hl2 => ?_) (fun L acc R' D' H' hI' q hl2 => ?_)
    · obtain ⟨_, rfl, x, _⟩ := q
      exact x _ _ el1
    · obtain ⟨ps, rfl, xq, rfl, pr⟩ := q
      rw [List.getElem?_map] at hv
      obtain ⟨k, hk, rfl⟩ := Option.map_eq_some_iff.mp hv
      have hi : i < ys.length := (List.getElem?_eq_some_iff.mp hk).1
      obtain ⟨p, em⟩ := Option.isSome_iff_exists.mp ((hin k).mp (List.mem_of_getElem? hk))
      obtain ⟨u, eu, _⟩ := told.yes k p em
      have et2 := hI'.drop.get mm
      have gk : g k = u := by show (valV kvs (.inl k)).getD .non = u; rw [eu]; rfl
      wtm_at "sg"
      refine dv_i (by wtm_at "hp") eu ?_
      wtm_at "sg"
      rename_i pn H2 D2 hI2 x2 en2
      refine le_mk hI2 ⟨ps ++ [pn], rfl, xq.trans x2, by rw [List.map_append]; rfl, ?_⟩ hl2 (by omega)
      rw [take_more hk, List.map_append]
      exact paired_snoc (by show D2 pn = some (.tup [.int k, g k]); rw [gk]; exact en2) (paired_mono (fun _ _ h => x2 _ _ h) pr)
    · obtain ⟨ps, rfl, xq, rfl, pr⟩ := q
      have hF := hI'.freeze
      have xF := hI'.freezeX
      rw [List.length_map, List.take_of_length_le (Nat.le_refl _)] at pr
      refine RDictO.p (hF.dat upd_same) (paired_mono (fun _ _ h => hF.dat (xF _ _ h)) pr) ?_
      have ekk : (ys.map fun j => ((Sum.inl j : Key), g j)).map (·.1) = ys.map Sum.inl := by rw [List.map_map]; rfl
      have ndk : ((ys.map fun j => ((Sum.inl j : Key), g j)).map (·.1)).Nodup := by
        rw [ekk]
        exact List.Pairwise.map _ (fun a b h e => h (Sum.inl.inj e)) nd
      rw [merge_nd ndk]
      refine al_D hF (fun pd H3 D3 hI3 x3 e3 => ?_)
      have xA : Ex D D3 := x1.trans (xq.trans (xF.trans x3))
      refine go pd ys _ _ _ hI3 xA e3 ⟨fun k em => ?_, fun k p em => ?_, ⟨ys, ekk, nd, fun k hk => bk k (hp.mem_iff.mp hk)⟩⟩ ekk hs nd hin
      · rw [valV_ks, if_neg]
        intro hk
        have := (hin k).mp hk
        rw [em] at this
        cases this
      · obtain ⟨u, eu, pu, w, b⟩ := told.yes k p em
        refine ⟨u, ?_, pu.mono xA, w, b⟩
        rw [valV_ks, if_pos ((hin k).mpr (by rw [em]; rfl))]
        show some ((valV kvs (.inl k)).getD .non) = some u
        rw [eu]
        rfl
/-- the weeks from 1 to n as f says -/
def wksOf (f : Int → Int × Int) (n : Nat) : List (Int × Int) := (List.range n).map fun (i : Nat) => f ((i : Int) + 1)
theorem wksOf_len {f : Int → Int × Int} {n : Nat} : (wksOf f n).length = n := by unfold wksOf; rw [List.length_map, List.length_range]
theorem wksOf_succ {f : Int → Int × Int} {n : Nat} : wksOf f (n + 1) = wksOf f n ++ [f ((n : Int) + 1)] := by
  unfold wksOf
  rw [List.range_succ, List.map_append]
  rfl
def spYWeeks (K : PySem.W.Frag) : Sp := fun vs H Q _ => ∃ (a : Addr) (f : Int → Int × Int) (n : Int) (R : Cells) (D : Hp), vs = [.ref a] ∧ HI H R D ∧ YrAt K R D a f n ∧
  ∀ (p : Addr) (xs : List V) H' D', HI H' ((p, .lst xs) :: R) D' → Ex D D' → PairsL D' xs (wksOf f n.toNat) → Q (.ref p) H'
set_option maxHeartbeats 1000000 in
theorem ok_Year_weeks {P : Program} {w : World} {K : PySem.W.Frag} {mg : Str → Option Value} {base : Heap} (T : Tx K mg) : FnG P w K mg base 2 (a_Year_weeks K) ["self"] (spYWeeks K) := by
  refine T.f_Year_weeks.ok sc_Year_weeks (fun vs H Q E h => ?_) (fun cdv A outer s H vs Q E hgu hr h => ⟨_, (pss_one (ps_ret (pe_lc (own := [("week", 1)]) rfl sc_Year_weeks.nd (pi_range2 (by rfl) T.n_range (pa_cons pe_int (pa_cons (pe_op op_addU (pe_callB (call_lenU) (by rfl) T.n_len boot_len (pa_cons (pe_fld (pv 0) rfl) pa_nil)) pe_int) pa_nil))) (blkOk_by (own := [("week", 1)]) (N := ["self", "week"]) (sc := defScope s_Year_weeks) (by decide +kernel)) (fun _ _ _ _ _ => (pg_name (i := 1) sc_Year_weeks.nd rfl (by first | exact Or.inl rfl | exact Or.inr rfl))) (fun _ _ _ _ _ => pts_nil) (fun _ _ _ _ _ => (ge_meth (pv 0) T.cl_Year T.m_Year_pair (ok_Year_pair T) hgu (hr.mono (by decide)) T.b_Year_pair .nil (fun _ => pass_none) (pa_cons (pv 1) pa_nil)))))), ?_⟩)
  · obtain ⟨a, f, n, R, D, rfl, _⟩ := h
    rfl
  · obtain ⟨a, f, n, R, D, rfl, hI, yr, go⟩ := h
    have pc := T.pc_Year
    obtain ⟨n1, n52⟩ := yr.nn
    obtain ⟨nl, td, ns, kvs, m, ⟨⟨dx, ea⟩, ⟨xs, en, pl⟩, _⟩, mt, told, hn, hf⟩ := id yr
    have hxl := pl.length
    wtm_at "go"
    wtm_at "sh"
    rw [hxl]
    refine lc_rng (fun i acc R' D' => R' = R ∧ D' = D ∧ PairsL D acc (wksOf f i)) hI ⟨rfl, rfl, .nil⟩ (fun L i acc R' D' H' hi hI' q hl2 => ?_) (fun L acc R' D' H' hI' q hl2 => ?_)
    · obtain ⟨hR, hD, ps⟩ := q
      rw [hR, hD] at hI'
      wtm_at "sh"
      refine pair_use hI' yr.cell (by omega) (by omega) (fun v pv => ?_)
      refine le_mk hI' ⟨rfl, rfl, ?_⟩ hl2 (by omega)
      rw [wksOf_succ, show (i : Int) + 1 = 1 + (i : Int) by omega]
      exact ps.snoc pv
    · obtain ⟨hR, hD, ps⟩ := q
      rw [hR, hD] at hI'
      refine go L acc _ _ hI' (Ex.refl _) ?_
      rw [show n.toNat = (((ns.length : Nat) : Int) + 1 - 1).toNat by omega]
      exact ps
theorem yweeks_use {K : PySem.W.Frag} {a : Addr} {f : Int → Int × Int} {n : Int} {R : Cells} {D H : Hp} {Q : VK} {E : XK} (hI : HI H R D) (yr : YrAt K R D a f n)
    (q : ∀ (p : Addr) (xs : List V) H' D', HI H' ((p, .lst xs) :: R) D' → Ex D D' → PairsL D' xs (wksOf f n.toNat) → Q (.ref p) H') : spYWeeks K [.ref a] H Q E := ⟨a, f, n, R, D, rfl, hI, yr, q⟩
def pD (p : Int × Int) : PyData := .tuple [.int p.1, .int p.2]
theorem rep_pairs {D : Hp} : ∀ {xs : List V} {ns : List (Int × Int)}, PairsL D xs ns → RepL D xs (ns.map pD)
  | _, _, .nil => .nil
  | _, _, .cons ⟨_, e, h⟩ l => by
    rw [e]
    exact .cons (.tup h (.cons (.int _) (.cons (.int _) .nil))) (rep_pairs l)
theorem sm_pair {p : Int × Int} (w : WOk p) : Sm (pD p) 69 1 := by
  obtain ⟨a, b, c, d⟩ := w
  refine (Sm.tuple (n := 31) (k := 0) (all_c (Sm.int (Nat.lt_of_le_of_lt (by omega : p.1.natAbs ≤ 1000) (by decide))) (all_c (Sm.int (Nat.lt_of_le_of_lt (by omega : p.2.natAbs ≤ 1000) (by decide))) all_n))).mono ?_ (Nat.le_refl _)
  show 31 * 2 + 2 * 2 + 3 ≤ 69
  omega
theorem sm_pairs {ns : List (Int × Int)} (h : ∀ q ∈ ns, WOk q) (l : ns.length ≤ 60) : Sm (.list (ns.map pD)) 5000 2 := by
  refine (Sm.list (n := 69) (k := 1) fun d hd => ?_).mono ?_ (Nat.le_refl _)
  · obtain ⟨p, hp, rfl⟩ := List.mem_map.mp hd
    exact sm_pair (h p hp)
  · rw [List.length_map]
    omega
theorem sorted_uniq : ∀ {a b : List Int}, a.Pairwise (· < ·) → b.Pairwise (· < ·) → (∀ k, k ∈ a ↔ k ∈ b) → a = b
  | [], [], _, _, _ => rfl
  | [], y :: b, _, _, h => nomatch (h y).mpr (List.mem_cons_self ..)
  | x :: a, [], _, _, h => nomatch (h x).mp (List.mem_cons_self ..)
  | x :: a, y :: b, ha, hb, h => by
    obtain ⟨ha1, ha2⟩ := List.pairwise_cons.mp ha
    obtain ⟨hb1, hb2⟩ := List.pairwise_cons.mp hb
    have e : x = y := by
      rcases List.mem_cons.mp ((h x).mp (List.mem_cons_self ..)) with e | e
      · exact e
      · rcases List.mem_cons.mp ((h y).mpr (List.mem_cons_self ..)) with q | q
        · exact q.symm
        · have := hb1 x e
          have := ha1 y q
          omega
    subst e
    rw [sorted_uniq ha2 hb2 fun k => ?_]
    constructor
    · intro hk
      rcases List.mem_cons.mp ((h k).mp (List.mem_cons_of_mem _ hk)) with e | e
      · have := ha1 k hk
        omega
      · exact e
    · intro hk
      rcases List.mem_cons.mp ((h k).mpr (List.mem_cons_of_mem _ hk)) with e | e
      · have := hb1 k hk
        omega
      · exact e
theorem rising {ks : List Int} (h : ks.Pairwise (· ≤ ·)) (nd : ks.Nodup) : ks.Pairwise (· < ·) := by
  have := List.Pairwise.and h nd
  exact this.imp fun {a b} ⟨h1, h2⟩ => by
    have : a ≠ b := h2
    omega
def toldD (ks : List Int) (m : Int → Option (Int × Int)) : PyData := .dict (ks.map fun k => (.int k, pD ((m k).getD (0, 0))))
theorem valV_mem : ∀ {kvs : List (Key × V)} {p : Key × V}, (kvs.map (·.1)).Nodup → p ∈ kvs → valV kvs p.1 = some p.2
  | q :: r, p, nd, h => by
    rcases List.mem_cons.mp h with rfl | h
    · exact valV_pos rfl
    · have ne : ¬ q.1 = p.1 := fun e => by
        rw [List.map_cons] at nd
        exact (List.nodup_cons.mp nd).1 (List.mem_map.mpr ⟨p, h, e.symm⟩)
      rw [valV_neg ne]
      exact valV_mem (List.nodup_cons.mp (by simpa using nd)).2 h
theorem repK_told {D : Hp} {m : Int → Option (Int × Int)} : ∀ {kvs : List (Key × V)} {ks : List Int}, kvs.map (·.1) = ks.map Sum.inl → (∀ p ∈ kvs, ∀ k, p.1 = .inl k → ∃ q, m k = some q ∧ PairAt D p.2 q) → RepK D kvs (ks.map fun k => (.int k, pD ((m k).getD (0, 0))))
  | [], [], _, _ => .nil
  | [], _ :: _, e, _ => nomatch e
  | _ :: _, [], e, _ => nomatch e
  | (kk, v) :: r, k :: ks, e, h => by
    obtain ⟨e1, e2⟩ := List.cons.inj e
    have e1 : kk = .inl k := e1
    subst e1
    obtain ⟨q, em, pq, rfl, ep⟩ := h (.inl k, v) (List.mem_cons_self ..) k rfl
    have t := repK_told e2 fun p hp j hj => h p (List.mem_cons_of_mem _ hp) j hj
    rw [List.map_cons, em]
    exact .cons (k := .inl k) (.tup ep (.cons (.int _) (.cons (.int _) .nil))) t
theorem Told.repD {D : Hp} {kvs : List (Key × V)} {m : Int → Option (Int × Int)} {n : Int} {ks : List Int} {p : Addr} (t : Told D kvs m n) (e : D p = some (.dK kvs)) (ek : kvs.map (·.1) = ks.map Sum.inl) (nd : ks.Nodup) : Rep D (.ref p) (toldD ks m) := by
  refine .dict e (repK_told ek fun q hq k hk => ?_)
  have ndk : (kvs.map (·.1)).Nodup := by
    rw [ek]
    exact List.Pairwise.map _ (fun a b h e => h (Sum.inl.inj e)) nd
  have hv := valV_mem ndk hq
  rw [hk] at hv
  cases em : m k with
  | none =>
    rw [t.no k em] at hv
    cases hv
  | some pp =>
    obtain ⟨v, hv2, pv, _⟩ := t.yes k pp em
    rw [hv] at hv2
    cases hv2
    exact ⟨pp, rfl, pv⟩
theorem sm_told {D : Hp} {kvs : List (Key × V)} {m : Int → Option (Int × Int)} {n : Int} {ks : List Int} (t : Told D kvs m n) (hin : ∀ k, k ∈ ks ↔ (m k).isSome = true) (n52 : n ≤ 60) (l : ks.length ≤ 60) : Sm (toldD ks m) 20000 2 := by
  refine (Sm.dict (n := 69) (k := 1) fun d hd => ?_).mono ?_ (Nat.le_refl _)
  · obtain ⟨k, hk, rfl⟩ := List.mem_map.mp hd
    obtain ⟨p, em⟩ := Option.isSome_iff_exists.mp ((hin k).mp hk)
    obtain ⟨v, _, _, w, k0, k1⟩ := t.yes k p em
    refine ⟨(Sm.int (Nat.lt_of_le_of_lt (by omega : k.natAbs ≤ 1000) (by decide))).mono (by omega) (by omega), ?_⟩
    show Sm (pD ((m k).getD (0, 0))) 69 1
    rw [em]
    exact sm_pair w
  · rw [List.length_map]
    omega
def wms (f : Int → Int × Int) (i j : Int) : List Int := (List.range (j + 1 - i).toNat).map fun (k : Nat) => (f (i + (k : Int))).1
def cls (f : Int → Int × Int) (i j : Int) : List Int := (List.range (j + 1 - i).toNat).map fun (k : Nat) => (f (i + (k : Int))).2
def spWarmSum (K : PySem.W.Frag) : Sp := fun vs H Q E => ∃ (a : Addr) (v w : V) (f : Int → Int × Int) (n : Int) (R : Cells) (D : Hp), vs = [.ref a, v, w] ∧ HI H R D ∧ YrAt K R D a f n ∧ Mt K R D v ∧ Mt K R D w ∧
  (∀ i j, v = .int i → w = .int j → 1 ≤ i → i ≤ n → 1 ≤ j → j ≤ n → ∀ H' D', HI H' R D' → Ex D D' → Q (.int (wms f i j).sum) H') ∧ (wholeB v 1 n = false → Outs E (He.ga K "NoWeek") v R D) ∧ (wholeB v 1 n = true → wholeB w 1 n = false → Outs E (He.ga K "NoWeek") w R D)
set_option maxHeartbeats 1000000 in
theorem ok_Year_warm_sum {P : Program} {w : World} {K : PySem.W.Frag} {mg : Str → Option Value} {base : Heap} (T : Tx K mg) : FnG P w K mg base 5 (a_Year_warm_sum K) ["self", "first", "last"] (spWarmSum K) := by
  refine T.f_Year_warm_sum.ok sc_Year_warm_sum (fun vs H Q E h => ?_) (fun cdv A outer s H vs Q E hgu hr h => ⟨_, (pss_cons (ps_expr (ge_meth (pv 0) T.cl_Year T.m_Year_need_week (ok_Year_need_week T) hgu (hr.mono (by decide)) T.b_Year_need_week .nil (fun _ => pass_takes (takes_of rfl rfl rfl rfl)) (pa_cons (pv 1) pa_nil)))
 (pss_cons (ps_expr (ge_meth (pv 0) T.cl_Year T.m_Year_need_week (ok_Year_need_week T) hgu (hr.mono (by decide)) T.b_Year_need_week .nil (fun _ => pass_takes (takes_of rfl rfl rfl rfl)) (pa_cons (pv 2) pa_nil)))
 (pss_one (ps_ret (pe_callB (call_sumU rfl) (by rfl) T.n_sum boot_sum (pa_cons (pe_lc (own := [("week", 3)]) rfl sc_Year_warm_sum.nd (pi_range2 (by rfl) T.n_range (pa_cons (pv 1) (pa_cons (pe_op op_addU (pv 2) pe_int) pa_nil))) (blkOk_by (own := [("week", 3)]) (N := ["self", "first", "last", "week"]) (sc := defScope s_Year_warm_sum) (by decide +kernel)) (fun _ _ _ _ _ => (pg_name (i := 3) sc_Year_warm_sum.nd rfl (by first | exact Or.inl rfl | exact Or.inr rfl))) (fun _ _ _ _ _ => pts_nil) (fun _ _ _ _ _ => (pe_ix ix_U (ge_meth (pv 0) T.cl_Year T.m_Year_pair (ok_Year_pair T) hgu (hr.mono (by decide)) T.b_Year_pair .nil (fun _ => pass_none) (pa_cons (pv 3) pa_nil)) pe_int (fun _ _ => rfl)))) pa_nil)))))), ?_⟩)
  · obtain ⟨a, v, w, f, n, R, D, rfl, _⟩ := h
    rfl
  · obtain ⟨a, v, w, f, n, R, D, rfl, hI, yr, mv, mw, good, bad1, bad2⟩ := h
    obtain ⟨n1, n52⟩ := yr.nn
    obtain ⟨nl, td, ns, kvs, m, ⟨⟨dx, ea⟩, _⟩, _⟩ := id yr
    wtm_at "go"
    wtm_at "sh"
    refine need_week_use hI yr mv (fun hb H1 hI1 => ?_) bad1
    wtm_at "sh"
    refine need_week_use hI1 yr mw (fun hb2 H2 hI2 => ?_) (bad2 hb)
    obtain ⟨i, rfl, i0, i1⟩ := whole_is hb
    obtain ⟨j, rfl, j0, j1⟩ := whole_is hb2
    wtm_at "sh"
    refine lc_rng (fun k acc R' D' => R' = R ∧ D' = D ∧ acc = ((List.range k).map fun (q : Nat) => (f (i + (q : Int))).1).map V.int) hI2 ⟨rfl, rfl, rfl⟩ (fun L k acc R' D' H' hk hI' q hl => ?_) (fun L acc R' D' H' hI' q hl => ?_)
    · obtain ⟨hR, hD, rfl⟩ := q
      rw [hR, hD] at hI'
      wtm_at "sh"
      refine pair_use hI' yr.cell (by omega) (by omega) (fun v pv => ?_)
      obtain ⟨q, rfl, eq⟩ := pv
      wtm_at "sh"
      refine le_mk hI' ⟨rfl, rfl, ?_⟩ hl (by omega)
      rw [List.range_succ, List.map_append, List.map_append]
      rfl
    · obtain ⟨hR, hD, rfl⟩ := q
      rw [hR, hD] at hI'
      obtain ⟨DF, hF, xF, eF⟩ := hI'.fr1
      refine RSum.mk (hF.dat eF) ?_
      exact good i j rfl rfl i0 i1 j0 j1 _ _ hF xF
def spColdest (K : PySem.W.Frag) : Sp := fun vs H Q E => ∃ (a : Addr) (v w : V) (f : Int → Int × Int) (n : Int) (R : Cells) (D : Hp), vs = [.ref a, v, w] ∧ HI H R D ∧ YrAt K R D a f n ∧ Mt K R D v ∧ Mt K R D w ∧
  (∀ i j, v = .int i → w = .int j → 1 ≤ i → i ≤ n → 1 ≤ j → j ≤ n → ∀ H' D', HI H' R D' → Ex D D' → Q (oV (cls f i j).min?) H') ∧ (wholeB v 1 n = false → Outs E (He.ga K "NoWeek") v R D) ∧ (wholeB v 1 n = true → wholeB w 1 n = false → Outs E (He.ga K "NoWeek") w R D)
set_option maxHeartbeats 1000000 in
theorem ok_Year_coldest {P : Program} {w : World} {K : PySem.W.Frag} {mg : Str → Option Value} {base : Heap} (T : Tx K mg) : FnG P w K mg base 5 (a_Year_coldest K) ["self", "first", "last"] (spColdest K) := by
  refine T.f_Year_coldest.ok sc_Year_coldest (fun vs H Q E h => ?_) (fun cdv A outer s H vs Q E hgu hr h => ⟨_, (pss_cons (ps_expr (ge_meth (pv 0) T.cl_Year T.m_Year_need_week (ok_Year_need_week T) hgu (hr.mono (by decide)) T.b_Year_need_week .nil (fun _ => pass_takes (takes_of rfl rfl rfl rfl)) (pa_cons (pv 1) pa_nil)))
 (pss_cons (ps_expr (ge_meth (pv 0) T.cl_Year T.m_Year_need_week (ok_Year_need_week T) hgu (hr.mono (by decide)) T.b_Year_need_week .nil (fun _ => pass_takes (takes_of rfl rfl rfl rfl)) (pa_cons (pv 2) pa_nil)))
 (pss_cons (ps_if (pt_cmpR op_gt (pv 1) (pv 2) (nomark _)) (pss_one (ps_ret pe_non)) pss_nil)
 (pss_one (ps_ret (pe_callB (cr_min rfl) (by rfl) T.n_min boot_min (pa_cons (pe_lc (own := [("week", 3)]) rfl sc_Year_coldest.nd (pi_range2 (by rfl) T.n_range (pa_cons (pv 1) (pa_cons (pe_op op_addU (pv 2) pe_int) pa_nil))) (blkOk_by (own := [("week", 3)]) (N := ["self", "first", "last", "week"]) (sc := defScope s_Year_coldest) (by decide +kernel)) (fun _ _ _ _ _ => (pg_name (i := 3) sc_Year_coldest.nd rfl (by first | exact Or.inl rfl | exact Or.inr rfl))) (fun _ _ _ _ _ => pts_nil) (fun _ _ _ _ _ => (pe_ix ix_U (ge_meth (pv 0) T.cl_Year T.m_Year_pair (ok_Year_pair T) hgu (hr.mono (by decide)) T.b_Year_pair .nil (fun _ => pass_none) (pa_cons (pv 3) pa_nil)) pe_int (fun _ _ => rfl)))) pa_nil))))))), ?_⟩)
  · obtain ⟨a, v, w, f, n, R, D, rfl, _⟩ := h
    rfl
  · obtain ⟨a, v, w, f, n, R, D, rfl, hI, yr, mv, mw, good, bad1, bad2⟩ := h
    obtain ⟨n1, n52⟩ := yr.nn
    obtain ⟨nl, td, ns, kvs, m, ⟨⟨dx, ea⟩, _⟩, _⟩ := id yr
    wtm_at "go"
    wtm_at "sh"
    refine need_week_use hI yr mv (fun hb H1 hI1 => ?_) bad1
    wtm_at "sh"
    refine need_week_use hI1 yr mw (fun hb2 H2 hI2 => ?_) (bad2 hb)
    obtain ⟨i, rfl, i0, i1⟩ := whole_is hb
    obtain ⟨j, rfl, j0, j1⟩ := whole_is hb2
    wtm_at "sh"
    refine if_dec (fun h => ?_) (fun h => ?_)
    · have g := good i j rfl rfl i0 i1 j0 j1 _ _ hI2 (Ex.refl _)
      have e : cls f i j = [] := by
        unfold cls
        rw [show (j + 1 - i).toNat = 0 by omega]
        rfl
      rw [e] at g
      wtm_at "sh"
      exact g
    wtm_at "sh"
    refine lc_rng (fun k acc R' D' => R' = R ∧ D' = D ∧ acc = ((List.range k).map fun (q : Nat) => (f (i + (q : Int))).2).map V.int) hI2 ⟨rfl, rfl, rfl⟩ (fun L k acc R' D' H' hk hI' q hl => ?_) (fun L acc R' D' H' hI' q hl => ?_)
    · obtain ⟨hR, hD, rfl⟩ := q
      rw [hR, hD] at hI'
      wtm_at "sh"
      refine pair_use hI' yr.cell (by omega) (by omega) (fun v pv => ?_)
      obtain ⟨q, rfl, eq⟩ := pv
      wtm_at "sh"
      refine le_mk hI' ⟨rfl, rfl, ?_⟩ hl (by omega)
      rw [List.range_succ, List.map_append, List.map_append]
      rfl
    · obtain ⟨hR, hD, rfl⟩ := q
      rw [hR, hD] at hI'
      obtain ⟨DF, hF, xF, eF⟩ := hI'.fr1
      refine ⟨L, cls f i j, rfl, SqL.of (hF.dat eF), by unfold cls; rw [List.length_map, List.length_range]; omega, fun m hm hmin => ?_⟩
      have g := good i j rfl rfl i0 i1 j0 j1 _ _ hF xF
      rw [List.min?_eq_some_iff.mpr ⟨hm, hmin⟩] at g
      exact g
def spLWeek : Sp := fun vs H Q _ => ∃ (b : Addr) (R : Cells) (D : Hp) (x y z : Int) (n : Nat), vs = [.ref b] ∧ HI H ((b, bx x y z) :: R) D ∧ BoxOk n x y z ∧ n + 100 < 1000000 ∧
  ∀ (q : Addr) (p : Int × Int) x' y' z' n' H' D', HI H' ((b, bx x' y' z') :: R) D' → Ex D D' → BoxOk n' x' y' z' → n' ≤ n + 10 → D' q = some (.tup [.int p.1, .int p.2]) → WOk p → Q (.ref q) H'
set_option maxHeartbeats 1000000 in
theorem ok_l_week {P : Program} {w : World} {K : PySem.W.Frag} {mg : Str → Option Value} {base : Heap} (T : Tx K mg) : FnG P w K mg base 2 (a_l_week K) ["box"] spLWeek := by
  refine T.f_l_week.ok sc_l_week (fun vs H Q E h => ?_) (fun cdv A outer s H vs Q E hgu hr h => ⟨_, (pss_cons (ps_set (i := 1) sc_l_week.nd rfl (Or.inl rfl) (pe_ix ix_U (pe_lst (pa_cons pe_int (pa_cons pe_int (pa_cons (ge_call (ok_l_take T) hgu (hr.mono (by decide)) rfl T.g_l_take T.k_l_take T.b_l_take .nil (fun _ => pass_takes (takes_of rfl rfl rfl rfl)) (pa_cons (pv 0) (pa_cons pe_int pa_nil))) (pa_cons (ge_call (ok_l_take T) hgu (hr.mono (by decide)) rfl T.g_l_take T.k_l_take T.b_l_take .nil (fun _ => pass_takes (takes_of rfl rfl rfl rfl)) (pa_cons (pv 0) (pa_cons pe_int pa_nil))) pa_nil))))) (ge_call (ok_l_take T) hgu (hr.mono (by decide)) rfl T.g_l_take T.k_l_take T.b_l_take .nil (fun _ => pass_takes (takes_of rfl rfl rfl rfl)) (pa_cons (pv 0) (pa_cons pe_int pa_nil))) (fun _ _ => rfl)))
 (pss_one (ps_ret (pe_tup (pa_cons (pv 1) (pa_cons (pe_ix ix_U (pe_lst (pa_cons (pe_un un_neg pe_int) (pa_cons pe_int (pa_cons (pe_op op_sub (ge_call (ok_l_take T) hgu (hr.mono (by decide)) rfl T.g_l_take T.k_l_take T.b_l_take .nil (fun _ => pass_takes (takes_of rfl rfl rfl rfl)) (pa_cons (pv 0) (pa_cons pe_int pa_nil))) pe_int) (pa_cons (pe_op op_sub (ge_call (ok_l_take T) hgu (hr.mono (by decide)) rfl T.g_l_take T.k_l_take T.b_l_take .nil (fun _ => pass_takes (takes_of rfl rfl rfl rfl)) (pa_cons (pv 0) (pa_cons pe_int pa_nil))) pe_int) pa_nil))))) (ge_call (ok_l_take T) hgu (hr.mono (by decide)) rfl T.g_l_take T.k_l_take T.b_l_take .nil (fun _ => pass_takes (takes_of rfl rfl rfl rfl)) (pa_cons (pv 0) (pa_cons pe_int pa_nil))) (fun _ _ => rfl)) pa_nil)))))), ?_⟩)
  · obtain ⟨b, R, D, x, y, z, n, rfl, _⟩ := h
    rfl
  · obtain ⟨b, R, D, x, y, z, n, rfl, hI, hb, hn, go⟩ := h
    wtm_at "go"
    wtm_at "sm"
    refine RIx.pickI (lo := 0) (hi := 400) (by wtm_at "hp") (all_c ⟨_, rfl, by omega, by omega⟩ (all_c ⟨_, rfl, by omega, by omega⟩ (all_c ⟨_, rfl, by omega, by omega⟩ (all_c ⟨_, rfl, by omega, by omega⟩ all_n)))) (by assumption) (by assumption) (fun i1 a0 a1 => ?_)
    wtm_at "sm"
    refine RIx.pickI (lo := -60) (hi := 60) (by wtm_at "hp") (all_c ⟨_, rfl, by omega, by omega⟩ (all_c ⟨_, rfl, by omega, by omega⟩ (all_c ⟨_, rfl, by omega, by omega⟩ (all_c ⟨_, rfl, by omega, by omega⟩ all_n)))) (by assumption) (by assumption) (fun i3 c0 c1 => ?_)
    wtm_at "sm"
    rename_i boB _ _ pt Ht Dt hIt xt et
    exact go pt (i1, i3) _ _ _ _ _ _ hIt (by wtm_at "ex") (by assumption) (by omega) et ⟨a0, a1, c0, c1⟩
theorem lweek_use {b : Addr} {R : Cells} {D H : Hp} {x y z : Int} {n : Nat} {Q : VK} {E : XK} (hI : HI H ((b, bx x y z) :: R) D) (bo : BoxOk n x y z) (hn : n + 100 < 1000000)
  (k : ∀ (q : Addr) (p : Int × Int) x' y' z' n' H' D', HI H' ((b, bx x' y' z') :: R) D' → Ex D D' → BoxOk n' x' y' z' → n' ≤ n + 10 → D' q = some (.tup [.int p.1, .int p.2]) → WOk p → Q (.ref q) H') : spLWeek ([.ref b] ++ []) H Q E := ⟨b, R, D, x, y, z, n, rfl, hI, bo, hn, k⟩
def spLWeeksW : Sp := fun vs H Q _ => ∃ (b : Addr) (R : Cells) (D : Hp) (x y z : Int) (n : Nat), vs = [.ref b] ∧ HI H ((b, bx x y z) :: R) D ∧ BoxOk n x y z ∧ n + 1000 < 1000000 ∧
  ∀ (p : Addr) (xs : List V) (ws : List (Int × Int)) x' y' z' n' H' D', HI H' ((b, bx x' y' z') :: R) D' → Ex D D' → BoxOk n' x' y' z' → n' ≤ n + 600 → D' p = some (.lst xs) → PairsL D' xs ws → 1 ≤ ws.length → ws.length ≤ 52 → (∀ q ∈ ws, WOk q) → Q (.ref p) H'
set_option maxHeartbeats 1000000 in
theorem ok_l_weeks {P : Program} {w : World} {K : PySem.W.Frag} {mg : Str → Option Value} {base : Heap} (T : Tx K mg) : FnG P w K mg base 3 (a_l_weeks K) ["box"] spLWeeksW := by
  refine T.f_l_weeks.ok sc_l_weeks (fun vs H Q E h => ?_) (fun cdv A outer s H vs Q E hgu hr h => ⟨_, (pss_cons (ps_set (i := 1) sc_l_weeks.nd rfl (Or.inl rfl) (pe_ix ix_U (pe_lst (pa_cons pe_int (pa_cons pe_int (pa_cons (pe_op op_addU pe_int (ge_call (ok_l_take T) hgu (hr.mono (by decide)) rfl T.g_l_take T.k_l_take T.b_l_take .nil (fun _ => pass_takes (takes_of rfl rfl rfl rfl)) (pa_cons (pv 0) (pa_cons pe_int pa_nil)))) (pa_cons (pe_op op_addU pe_int (ge_call (ok_l_take T) hgu (hr.mono (by decide)) rfl T.g_l_take T.k_l_take T.b_l_take .nil (fun _ => pass_takes (takes_of rfl rfl rfl rfl)) (pa_cons (pv 0) (pa_cons pe_int pa_nil)))) pa_nil))))) (ge_call (ok_l_take T) hgu (hr.mono (by decide)) rfl T.g_l_take T.k_l_take T.b_l_take .nil (fun _ => pass_takes (takes_of rfl rfl rfl rfl)) (pa_cons (pv 0) (pa_cons pe_int pa_nil))) (fun _ _ => rfl)))
 (pss_one (ps_ret (pe_lc (own := [("k", 2)]) rfl sc_l_weeks.nd (pi_range1 rfl T.n_range (pa_cons (pv 1) pa_nil)) (blkOk_by (own := [("k", 2)]) (N := ["box", "many", "k"]) (sc := defScope s_l_weeks) (by decide +kernel)) (fun _ _ _ _ _ => (pg_name (i := 2) sc_l_weeks.nd rfl (by first | exact Or.inl rfl | exact Or.inr rfl))) (fun _ _ _ _ _ => pts_nil) (fun _ _ _ _ _ => (ge_call (ok_l_week T) hgu (hr.mono (by decide)) rfl T.g_l_week T.k_l_week T.b_l_week .nil (fun _ => pass_none) (pa_cons (pv 0) pa_nil))))))), ?_⟩)
  · obtain ⟨b, R, D, x, y, z, n, rfl, _⟩ := h
    rfl
  · obtain ⟨b, R, D, x, y, z, n, rfl, hI, hb, hn, go⟩ := h
    wtm_at "go"
    wtm_at "sm"
    rename_i r1 x1 y1 z1 H1 hI1 bo1 r10 r11 r2 x2 y2 z2 H2 hI2 bo2 r20 r21 pl Hl Dl hIl xl el r3 x3 y3 z3 H3 hI3 bo3 r30 r31
    refine RIx.pickI (lo := 1) (hi := 52) (hI3.dat el) (all_c ⟨_, rfl, by omega, by omega⟩ (all_c ⟨_, rfl, by omega, by omega⟩ (all_c ⟨_, rfl, by omega, by omega⟩ (all_c ⟨_, rfl, by omega, by omega⟩ all_n)))) (by assumption) (by assumption) (fun many a0 a1 => ?_)
    wtm_at "sm"
    refine lc_rng (fun j acc R' D' => ∃ (ws : List (Int × Int)) (x y z : Int) (n' : Nat), R' = (b, bx x y z) :: R ∧ BoxOk n' x y z ∧ n' ≤ n + 3 + 10 * j ∧ Ex D D' ∧ ws.length = j ∧ PairsL D' acc ws ∧ ∀ q ∈ ws, WOk q) hI3 ⟨[], _, _, _, _, rfl, bo3, by omega, by wtm_at "ex", rfl, .nil, all_n⟩ (fun L j acc R' D' H' hj hI' p hl => ?_) (fun La acc R' D' H' hI' p hl => ?_)
    · obtain ⟨ws, x4, y4, z4, n4, rfl, bo4, hn4, xq, wl, pa, wa⟩ := p
      wtm_at "sm"
      refine lweek_use hI'.swap bo4 (by omega) (fun q pq x5 y5 z5 n5 H5 D5 hI5 x5' bo5 hn5 eq wq => ?_)
      refine le_mk hI5.swap ⟨ws ++ [pq], _, _, _, _, rfl, bo5, by omega, xq.trans x5', by rw [List.length_append, wl]; rfl, (pa.mono x5').snoc ⟨q, rfl, eq⟩, fun r hr => ?_⟩ hl (by omega)
      rcases List.mem_append.mp hr with h | h
      · exact wa r h
      · rw [List.mem_singleton.mp h]
        exact wq
    · obtain ⟨ws, x4, y4, z4, n4, rfl, bo4, hn4, xq, wl, pa, wa⟩ := p
      obtain ⟨DF, hF, xF, eF⟩ := hI'.fr1
      exact go La acc ws _ _ _ _ _ _ hF (xq.trans xF) bo4 (by omega) eF (pa.mono xF) (by omega) (by omega) wa
theorem lweeksW_use {b : Addr} {R : Cells} {D H : Hp} {x y z : Int} {n : Nat} {Q : VK} {E : XK} (hI : HI H ((b, bx x y z) :: R) D) (hb : BoxOk n x y z) (hn : n + 1000 < 1000000)
    (q : ∀ (p : Addr) (xs : List V) (ws : List (Int × Int)) x' y' z' n' H' D', HI H' ((b, bx x' y' z') :: R) D' → Ex D D' → BoxOk n' x' y' z' → n' ≤ n + 600 → D' p = some (.lst xs) → PairsL D' xs ws → 1 ≤ ws.length → ws.length ≤ 52 → (∀ q ∈ ws, WOk q) → Q (.ref p) H') : spLWeeksW [.ref b] H Q E := ⟨b, R, D, x, y, z, n, rfl, hI, hb, hn, q⟩
theorem stand_none {ns : List (Int × Int)} : wksOf (stand ns fun _ => none) ns.length = ns := by
  refine List.ext_getElem? fun i => ?_
  unfold wksOf
  rw [List.getElem?_map]
  by_cases h : i < ns.length
  · rw [List.getElem?_range h, List.getElem?_eq_getElem h]
    show some (ns.getD ((i : Int) + 1 - 1).toNat (0, 0)) = _
    rw [show ((i : Int) + 1 - 1).toNat = i by omega, List.getD_eq_getElem?_getD, List.getElem?_eq_getElem h]
    rfl
  · rw [List.getElem?_eq_none (by rw [List.length_range]; omega), List.getElem?_eq_none (by omega)]
    rfl
theorem YrAt.ins {K : PySem.W.Frag} {R : Cells} {D : Hp} {a : Addr} {f : Int → Int × Int} {n : Int} (h : YrAt K R D a f n) : ∃ nl td dx, D a = some (.ins (He.ga K "Year") dx [("kept_normal", .ref nl), ("kept_told", .ref td)]) := by
  obtain ⟨nl, td, ns, kvs, m, ⟨⟨dx, e⟩, _⟩, _⟩ := h
  exact ⟨nl, td, dx, e⟩
theorem ytold_use {K : PySem.W.Frag} {a nl td : Addr} {ns : List (Int × Int)} {kvs : List (Key × V)} {m : Int → Option (Int × Int)} {R : Cells} {D H : Hp} {Q : VK} {E : XK} (hI : HI H R D) (iy : IsYr K D a nl td ns) (mm : ((td, HO.dK kvs) : Addr × HO) ∈ R) (t : Told D kvs m ns.length)
    (q : ∀ (p : Addr) (ks : List Int) (kvs' : List (Key × V)) H' D', HI H' R D' → Ex D D' → D' p = some (.dK kvs') → Told D' kvs' m ns.length → kvs'.map (·.1) = ks.map Sum.inl → ks.Pairwise (· ≤ ·) → ks.Nodup → (∀ k, k ∈ ks ↔ (m k).isSome = true) → Q (.ref p) H') : spYTold K [.ref a] H Q E := ⟨a, nl, td, ns, kvs, m, R, D, rfl, hI, iy, mm, t, q⟩
/-- the told weeks, rising -/
def ksOf (m : Int → Option (Int × Int)) (n : Nat) : List Int := ((List.range n).map fun (i : Nat) => (i : Int) + 1).filter fun k => (m k).isSome
theorem ksOf_rise {m : Int → Option (Int × Int)} {n : Nat} : (ksOf m n).Pairwise (· < ·) := by
  refine List.Pairwise.filter _ ?_
  rw [List.pairwise_map]
  exact (List.pairwise_lt_range (n := n)).imp fun {a b} h => by omega
theorem ksOf_mem {D : Hp} {kvs : List (Key × V)} {m : Int → Option (Int × Int)} {n : Nat} (t : Told D kvs m n) (k : Int) : k ∈ ksOf m n ↔ (m k).isSome = true := by
  unfold ksOf
  rw [List.mem_filter, List.mem_map]
  refine ⟨fun h => h.2, fun h => ⟨?_, h⟩⟩
  obtain ⟨p, em⟩ := Option.isSome_iff_exists.mp h
  obtain ⟨_, _, _, _, k0, k1⟩ := t.yes k p em
  exact ⟨(k - 1).toNat, List.mem_range.mpr (by omega), by omega⟩
theorem ksOf_eq {D : Hp} {kvs : List (Key × V)} {m : Int → Option (Int × Int)} {n : Nat} {ks : List Int} (t : Told D kvs m n) (h1 : ks.Pairwise (· ≤ ·)) (nd : ks.Nodup) (h : ∀ k, k ∈ ks ↔ (m k).isSome = true) : ks = ksOf m n :=
  sorted_uniq (rising h1 nd) ksOf_rise fun k => (h k).trans (ksOf_mem t k).symm
/-- any type -/
abbrev AnyT : Value → Prop := fun _ => True
def spLOdd (K : PySem.W.Frag) : Sp := fun vs H Q _ => ∃ (b : Addr) (R : Cells) (D : Hp) (x y z : Int) (n : Nat), vs = [.ref b] ∧ HI H ((b, bx x y z) :: R) D ∧ BoxOk n x y z ∧ n + 100 < 1000000 ∧
  ∀ v LN x' y' z' n' H' D', HI H' ((b, bx x' y' z') :: (LN ++ R)) D' → Ex D D' → BoxOk n' x' y' z' → n' ≤ n + 3 → (∀ c ∈ LN, OkO 1 c.2) → Odt K AnyT (LN.map (·.1)) D' v → Q v H'
set_option maxHeartbeats 1000000 in
theorem ok_l_odd {P : Program} {w : World} {K : PySem.W.Frag} {mg : Str → Option Value} {base : Heap} (T : Tx K mg) : FnG P w K mg base 4 (a_l_odd K) ["box"] (spLOdd K) := by
  refine T.f_l_odd.ok sc_l_odd (fun vs H Q E h => ?_) (fun cdv A outer s H vs Q E hgu hr h => ⟨_, (pss_cons (ps_set (i := 1) sc_l_odd.nd rfl (Or.inl rfl) (pe_lst (pa_cons pe_non (pa_cons pe_bl (pa_cons pe_str (pa_cons pe_str (pa_cons (pe_lstM (pa_cons pe_int pa_nil)) (pa_cons (pe_tup (pa_cons pe_int pa_nil)) (pa_cons (pe_dnewM) (pa_cons (dispM (pe_disp (pps_cons pe_str pe_int pps_nil) (by rfl) (by rfl) (fun z => by cases z) (by decide))) (pa_cons (pe_lstM pa_nil) (pa_cons (pe_tup pa_nil) (pa_cons (pe_op op_pow pe_int pe_int) (pa_cons (pe_op op_sub pe_int (pe_op op_pow pe_int pe_int)) (pa_cons (pe_mkQ T.x_NoSort (okq_NoSort_init T) T.b_NoSort_init (hr.mono (by decide)) rfl (pa_cons pe_int pa_nil)) (pa_cons pe_bl pa_nil))))))))))))))))
 (pss_one (ps_ret (pe_ix ix_U (pv 1) (ge_call (ok_l_take T) hgu (hr.mono (by decide)) rfl T.g_l_take T.k_l_take T.b_l_take .nil (fun _ => pass_takes (takes_of rfl rfl rfl rfl)) (pa_cons (pv 0) (pa_cons pe_int pa_nil))) (fun _ _ => rfl))))), ?_⟩)
  · obtain ⟨b, R, D, x, y, z, n, rfl, _⟩ := h
    rfl
  · obtain ⟨b, R, D, x, y, z, n, rfl, hI, hb, hn, go⟩ := h
    wtm_at "go"
    wtm_at "sn"
    rename_i pl1 Hl1 hl1 pt Ht Dt ht xt et pd0 Hd0 hd0 pd1 Hd1 hd1 Hd2 hd2 pl0 Hl0 hl0 pe He1 De he xe ee ax dx tx HX DX hX xX eX edX etX pS HS DS hS xS eS r1 x2 y2 z2 H2 hI2 bo2 r10 r11
    let LN : Cells := [(pl0, .lst []), (pd1, .dK (mergeK [] [(Sum.inr (Str.ofString "a"), V.int 1)])), (pd0, .dK []), (pl1, .lst [.int 1])]
    have okL : ∀ c ∈ LN, OkO 1 c.2 := all_c (.lst all_n (by decide)) (all_c (.dict (all_c ⟨⟨sg_of rfl, by decide⟩, .int (by decide)⟩ all_n) (by decide)) (all_c (.dict all_n (by decide)) (all_c (.lst (all_c (.int (by decide)) all_n) (by decide)) all_n)))
    have hL : HI H2 ((b, bx x2 y2 z2) :: (LN ++ R)) DS := hI2
    have xtS : Ex Dt DS := xe.trans (xX.trans xS)
    have xDS : Ex D DS := xt.trans xtS
    refine RIx.pick (P := Odt K AnyT (LN.map (·.1)) DS) (by wtm_at "hp") (all_c (.of_non trivial) (all_c (.of_bl _ trivial) (all_c (.of_str (sg_of rfl) (by decide) trivial) (all_c (.of_str (sg_of rfl) (by decide) trivial) (all_c (.cell (by simp [LN])) (all_c (.of_tup (xtS _ _ et) (all_c ((ShS.int (by decide)).le (by decide) (by decide)) all_n) (by decide) trivial) (all_c (.cell (by simp [LN])) (all_c (.cell (by simp [LN])) (all_c (.cell (by simp [LN])) (all_c (.of_tup ((xX.trans xS) _ _ ee) all_n (by decide) trivial) (all_c (.of_int (by decide) trivial) (all_c (.of_int (by decide) trivial) (all_c (.of_exc (xS _ _ eX) (xS _ _ edX) (xS _ _ etX) T.q_NoSort (sg_of rfl) (by decide) T.x_NoSort.E T.six_NoSort trivial) (all_c (.of_bl _ trivial) all_n)))))))))))))) r10 r11 (fun v hv => ?_)
    exact go v LN _ _ _ _ _ _ hL xDS bo2 (by omega) okL hv
def spLNumber (K : PySem.W.Frag) : Sp := fun vs H Q _ => ∃ (b : Addr) (lo hi : Int) (R : Cells) (D : Hp) (x y z : Int) (n : Nat), vs = [.ref b, .int lo, .int hi] ∧ HI H ((b, bx x y z) :: R) D ∧ BoxOk n x y z ∧ n + 100 < 1000000 ∧ -100000 ≤ lo ∧ lo ≤ 100000 ∧ -100000 ≤ hi ∧ hi ≤ 100000 ∧
  ∀ v LN x' y' z' n' H' D', HI H' ((b, bx x' y' z') :: (LN ++ R)) D' → Ex D D' → BoxOk n' x' y' z' → n' ≤ n + 6 → (∀ c ∈ LN, OkO 1 c.2) → Odt K AnyT (LN.map (·.1)) D' v → Q v H'
theorem lodd_use {K : PySem.W.Frag} {b : Addr} {R : Cells} {D H : Hp} {x y z : Int} {n : Nat} {Q : VK} {E : XK} (hI : HI H ((b, bx x y z) :: R) D) (bo : BoxOk n x y z) (hn : n + 100 < 1000000)
    (q : ∀ v LN x' y' z' n' H' D', HI H' ((b, bx x' y' z') :: (LN ++ R)) D' → Ex D D' → BoxOk n' x' y' z' → n' ≤ n + 3 → (∀ c ∈ LN, OkO 1 c.2) → Odt K AnyT (LN.map (·.1)) D' v → Q v H') : spLOdd K [.ref b] H Q E := ⟨b, R, D, x, y, z, n, rfl, hI, bo, hn, q⟩
set_option maxHeartbeats 1000000 in
theorem ok_l_number {P : Program} {w : World} {K : PySem.W.Frag} {mg : Str → Option Value} {base : Heap} (T : Tx K mg) : FnG P w K mg base 5 (a_l_number K) ["box", "low", "high"] (spLNumber K) := by
  refine T.f_l_number.ok sc_l_number (fun vs H Q E h => ?_) (fun cdv A outer s H vs Q E hgu hr h => ⟨_, (pss_cons (ps_set (i := 3) sc_l_number.nd rfl (Or.inl rfl) (pe_lst (pa_cons (pe_op op_sub (pv 1) pe_int) (pa_cons (pv 1) (pa_cons (pv 2) (pa_cons (pe_op op_addU (pv 2) pe_int) (pa_cons (ge_call (ok_l_odd T) hgu (hr.mono (by decide)) rfl T.g_l_odd T.k_l_odd T.b_l_odd .nil (fun _ => pass_takes (takes_of rfl rfl rfl rfl)) (pa_cons (pv 0) pa_nil)) pa_nil)))))))
 (pss_one (ps_ret (pe_ix ix_U (pv 3) (ge_call (ok_l_take T) hgu (hr.mono (by decide)) rfl T.g_l_take T.k_l_take T.b_l_take .nil (fun _ => pass_takes (takes_of rfl rfl rfl rfl)) (pa_cons (pv 0) (pa_cons pe_int pa_nil))) (fun _ _ => rfl))))), ?_⟩)
  · obtain ⟨b, lo, hi, R, D, x, y, z, n, rfl, _⟩ := h
    rfl
  · obtain ⟨b, lo, hi, R, D, x, y, z, n, rfl, hI, hb, hn, l0, l1, h0, h1, go⟩ := h
    wtm_at "go"
    wtm_at "sn"
    refine lodd_use hI hb (by omega) (fun v LN x1 y1 z1 n1 H1 D1 hI1 xx1 bo1 hn1 okl od => ?_)
    wtm_at "sn"
    rename_i pS HS DS hS xS eS r1 x2 y2 z2 H2 hI2 bo2 r10 r11
    refine RIx.pick (P := Odt K AnyT (LN.map (·.1)) DS) (by wtm_at "hp") (all_c (.of_int (Nat.lt_of_le_of_lt (by omega : (lo - 1).natAbs ≤ 200000) (by decide)) trivial) (all_c (.of_int (Nat.lt_of_le_of_lt (by omega : lo.natAbs ≤ 200000) (by decide)) trivial) (all_c (.of_int (Nat.lt_of_le_of_lt (by omega : hi.natAbs ≤ 200000) (by decide)) trivial) (all_c (.of_int (Nat.lt_of_le_of_lt (by omega : (hi + 1).natAbs ≤ 200000) (by decide)) trivial) (all_c (od.mono xS) all_n))))) r10 r11 (fun v hv => ?_)
    exact go v LN _ _ _ _ _ _ hI2 (xx1.trans xS) bo2 (by omega) okl hv
theorem lnumber_use {K : PySem.W.Frag} {b : Addr} {lo hi : Int} {R : Cells} {D H : Hp} {x y z : Int} {n : Nat} {Q : VK} {E : XK} (hI : HI H ((b, bx x y z) :: R) D) (bo : BoxOk n x y z) (hn : n + 100 < 1000000) (l0 : -100000 ≤ lo) (l1 : lo ≤ 100000) (h0 : -100000 ≤ hi) (h1 : hi ≤ 100000)
    (q : ∀ v LN x' y' z' n' H' D', HI H' ((b, bx x' y' z') :: (LN ++ R)) D' → Ex D D' → BoxOk n' x' y' z' → n' ≤ n + 6 → (∀ c ∈ LN, OkO 1 c.2) → Odt K AnyT (LN.map (·.1)) D' v → Q v H') : spLNumber K [.ref b, .int lo, .int hi] H Q E := ⟨b, lo, hi, R, D, x, y, z, n, rfl, hI, bo, hn, l0, l1, h0, h1, q⟩
set_option maxHeartbeats 400000 in
theorem ok_l_whole {P : Program} {w : World} {K : PySem.W.Frag} {mg : Str → Option Value} {base : Heap} (T : Tx K mg) : FnG P w K mg base 1 (a_l_whole K) ["thing", "low", "high"] (spWhole K) := by
  refine T.f_l_whole.ok sc_l_whole (fun vs H Q E h => ?_) (fun cdv A outer s H vs Q E hgu hr h => ⟨_, (pss_one (ps_ret (pe_and (pe_callB (show CallR _ (.builtin "isinstance") (RIsi K) from call_isiU) (by rfl) T.n_isinstance boot_isinstance (pa_cons (pv 0) (pa_cons (pe_bltn (v := .ty "int") (by rfl) T.n_int boot_int rfl) pa_nil))) (pe_and (pe_not (pe_callB (show CallR _ (.builtin "isinstance") (RIsi K) from call_isiU) (by rfl) T.n_isinstance boot_isinstance (pa_cons (pv 0) (pa_cons (pe_bltn (v := .ty "bool") (by rfl) T.n_bool boot_bool rfl) pa_nil)))) (pe_one (pe_chain op_le op_le (pv 1) (pv 0) (pv 2))))))), ?_⟩)
  · obtain ⟨v, lo, hi, R, D, rfl, _⟩ := h
    rfl
  · obtain ⟨v, lo, hi, R, D, rfl, hI, mt, go⟩ := h
    obtain ⟨⟨k, kn⟩, _⟩ := mt.kn hI
    wtm_at "go"
    wtm_at "sj"
    rcases kn.told with ⟨rfl, rfl⟩ | ⟨b, rfl, rfl⟩ | ⟨i, rfl, rfl⟩ | ⟨z, rfl, rfl⟩ | ⟨a, rfl, hk⟩
    · exact go _ (by assumption)
    · refine iteT ?_
      wtm_at "sj"
      exact go _ (by assumption)
    · refine iteT ?_
      wtm_at "sj"
      have g : Q (.bl (decide (lo ≤ i) && decide (i ≤ hi))) H := go _ (by assumption)
      refine if_dec (fun h => ?_) (fun h => ?_)
      · wtm_at "sj"
        rw [decide_eq_true h, Bool.true_and] at g
        exact g
      · rw [decide_eq_false h, Bool.false_and] at g
        exact g
    · exact go _ (by assumption)
    · have g := go _ (by assumption)
      rcases hk with rfl | rfl | rfl | rfl <;> exact g
/-- cells are data from now on -/
theorem HI.fall {H : Hp} : ∀ {OC R : Cells} {D : Hp}, HI H (OC ++ R) D → ∃ D', HI H R D' ∧ Ex D D' ∧ ∀ c ∈ OC, D' c.1 = some c.2
  | [], R, D, h => ⟨D, h, Ex.refl _, all_n⟩
  | c :: OC, R, D, h => by
    obtain ⟨D1, h1, x1, e1⟩ := (show HI H (c :: (OC ++ R)) D from h).fr1
    obtain ⟨D2, h2, x2, e2⟩ := HI.fall h1
    exact ⟨D2, h2, x1.trans x2, all_c (x2 _ _ e1) e2⟩
theorem Odt.froz {K : PySem.W.Frag} {OC : Cells} {D D' : Hp} {v : V} {m : Nat} (h : Odt K AnyT (OC.map (·.1)) D v) (x : Ex D D') (ok : ∀ c ∈ OC, OkO m c.2) (hm : m ≤ 20) (e : ∀ c ∈ OC, D' c.1 = some c.2) : Th K D' v ∧ ShS K D' v 30000 20 := by
  cases h with
  | dat kn ty p s z a b => exact ⟨⟨⟨_, kn.mono x⟩, z⟩, s.mono x⟩
  | cell hm2 =>
    obtain ⟨o, hc⟩ := mem_fst hm2
    have ec := e _ hc
    have oc := ok _ hc
    refine ⟨?_, (oc.sh hm ec).le (Nat.le_refl _) (by decide)⟩
    cases oc with
    | lst h l => exact Th.kn (.lst ec)
    | dict h l => exact Th.kn (.dict ec)
theorem lnumberD_use {K : PySem.W.Frag} {b : Addr} {lo hi : Int} {R : Cells} {D H : Hp} {x y z : Int} {n : Nat} {Q : VK} {E : XK} (hI : HI H ((b, bx x y z) :: R) D) (bo : BoxOk n x y z) (hn : n + 100 < 1000000) (l0 : -100000 ≤ lo) (l1 : lo ≤ 100000) (h0 : -100000 ≤ hi) (h1 : hi ≤ 100000)
    (q : ∀ v x' y' z' n' H' D', HI H' ((b, bx x' y' z') :: R) D' → Ex D D' → BoxOk n' x' y' z' → n' ≤ n + 6 → Th K D' v → ShS K D' v 30000 20 → Q v H') : spLNumber K [.ref b, .int lo, .int hi] H Q E :=
  lnumber_use hI bo hn l0 l1 h0 h1 fun v LN x' y' z' n' H' D' hI' xx bo' hn' okl od => by
    obtain ⟨D2, h2, x2, e2⟩ := HI.fall (HI.back hI')
    obtain ⟨th, sh⟩ := od.froz x2 okl (by omega) e2
    exact q v x' y' z' n' H' D2 h2 (xx.trans x2) bo' hn' th sh
/-- a week's thing, shown -/
def ItS (K : PySem.W.Frag) (D : Hp) (v : V) (b : Bool) : Prop := Itm K D v b ∧ ShS K D v 61000 22
theorem ItS.mono {K : PySem.W.Frag} {D D' : Hp} {v : V} {b : Bool} (h : ItS K D v b) (x : Ex D D') : ItS K D' v b := ⟨h.1.mono x, h.2.mono x⟩
inductive Near (K : PySem.W.Frag) (D : Hp) : Cells → V → Prop
  | lst {p : Addr} {xs : List V} {bs : List Bool} (il : ItL K D xs bs) (l : xs.length ≤ 99) (s : ∀ v ∈ xs, ShS K D v 61000 22) : Near K D [(p, .lst xs)] (.ref p)
  | tup {p : Addr} {xs : List V} {bs : List Bool} (e : D p = some (.tup xs)) (il : ItL K D xs bs) (l : xs.length ≤ 99) (s : ∀ v ∈ xs, ShS K D v 61000 22) : Near K D [] (.ref p)
  | oth {v : V} {k : Knd} (kn : Kn K D v k) (nl : k.is "list" = false) (nt : k.is "tuple" = false) (s : ShS K D v 6500000 30) : Near K D [] v
theorem sh_pairs {K : PySem.W.Frag} {D : Hp} : ∀ {xs : List V} {ns : List (Int × Int)}, PairsL D xs ns → (∀ w ∈ ns, WOk w) → ∀ v ∈ xs, ShS K D v 61000 22
  | _, _, .nil, _ => all_n
  | _, _, .cons ⟨q, e, h⟩ l, w => by
    have ww := w _ (List.mem_cons_self ..)
    have := ww.w0; have := ww.w1; have := ww.c0; have := ww.c1
    refine all_c ?_ (sh_pairs l fun x hx => w x (List.mem_cons_of_mem _ hx))
    rw [e]
    exact (ShS.tup (n := 31) (k := 0) h (ShLs.of (all_c (ShS.int (Nat.lt_of_le_of_lt (by omega : _ ≤ 1000) (by decide))) (all_c (ShS.int (Nat.lt_of_le_of_lt (by omega : _ ≤ 1000) (by decide))) all_n)))).le (by show 31 * 2 + 2 * 2 + 3 ≤ 61000; omega) (by decide)
theorem cutV_to {xs : List V} {k : Nat} : cutV xs none (some (k : Int)) = xs.take k := by
  unfold cutV
  simp only [sIx_le']
  show (xs.drop 0).take (min k xs.length - 0) = _
  rw [List.drop_zero, Nat.sub_zero]
  by_cases h : k ≤ xs.length
  · rw [Nat.min_eq_left h]
  · rw [Nat.min_eq_right (by omega), List.take_of_length_le (Nat.le_refl _), List.take_of_length_le (by omega)]
theorem ItL.all {K : PySem.W.Frag} {D : Hp} : ∀ {vs : List V}, (∀ v ∈ vs, Itm K D v true) → ItL K D vs (vs.map fun _ => true)
  | [], _ => .nil
  | v :: vs, h => .cons (h v (List.mem_cons_self ..)) (ItL.all fun u hu => h u (List.mem_cons_of_mem _ hu))
theorem pairs_itm {K : PySem.W.Frag} {D : Hp} : ∀ {xs : List V} {ns : List (Int × Int)}, PairsL D xs ns → (∀ w ∈ ns, WOk w) → ∀ v ∈ xs, Itm K D v true
  | _, _, .nil, _ => all_n
  | _, _, .cons h l, w => all_c (itm_pair h (w _ (List.mem_cons_self ..))) (pairs_itm l fun x hx => w x (List.mem_cons_of_mem _ hx))
theorem ixN_of12 {n : Nat} {k : Int} {j : Nat} (h : k = (j : Int)) (hj : j < n) : ixN n k = some j := by
  rw [h]
  unfold ixN
  rw [if_pos (by omega), if_pos (by omega), Int.toNat_natCast]
theorem cut_many {xs : List V} {k : Nat} : (∀ v ∈ cutV (List.replicate (53 : Int).toNat xs).flatten none (some (k : Int)), v ∈ xs) ∧ (cutV (List.replicate (53 : Int).toNat xs).flatten none (some (k : Int))).length ≤ k := by
  rw [cutV_to]
  refine ⟨fun v hv => ?_, List.length_take_le _ _⟩
  obtain ⟨l, hl, hv⟩ := List.mem_flatten.mp (List.mem_of_mem_take hv)
  rw [(List.mem_replicate.mp hl).2] at hv
  exact hv
def spLNear (K : PySem.W.Frag) : Sp := fun vs H Q _ => ∃ (b p : Addr) (xs : List V) (ns : List (Int × Int)) (R : Cells) (D : Hp) (x y z : Int) (n : Nat), vs = [.ref b, .ref p] ∧ HI H ((b, bx x y z) :: R) D ∧ BoxOk n x y z ∧ n + 200 < 1000000 ∧ D p = some (.lst xs) ∧ PairsL D xs ns ∧ 1 ≤ ns.length ∧ ns.length ≤ 52 ∧ (∀ q ∈ ns, WOk q) ∧
  ∀ v C x' y' z' n' H' D', HI H' (C ++ (b, bx x' y' z') :: R) D' → Ex D D' → BoxOk n' x' y' z' → n' ≤ n + 60 → Near K D' C v → Q v H'
set_option maxHeartbeats 2000000 in
theorem ok_l_near {P : Program} {w : World} {K : PySem.W.Frag} {mg : Str → Option Value} {base : Heap} (T : Tx K mg) : FnG P w K mg base 6 (a_l_near K) ["box", "weeks"] (spLNear K) := by
  refine T.f_l_near.ok sc_l_near (fun vs H Q E h => ?_) (fun cdv A outer s H vs Q E hgu hr h => ⟨_, (pss_cons (ps_set (i := 2) sc_l_near.nd rfl (Or.inl rfl) (pe_callTy call_listUM (by rfl) T.n_list boot_list (pa_cons (pv 1) pa_nil)))
 (pss_cons (ps_for (passes_of rfl) rfl (pi_range1 rfl T.n_range (pa_cons (ge_call (ok_l_take T) hgu (hr.mono (by decide)) rfl T.g_l_take T.k_l_take T.b_l_take .nil (fun _ => pass_takes (takes_of rfl rfl rfl rfl)) (pa_cons (pv 0) (pa_cons pe_int pa_nil))) pa_nil)) (pg_name (i := 3) sc_l_near.nd rfl (Or.inl rfl)) (pss_cons (ps_set (i := 4) sc_l_near.nd rfl (Or.inl rfl) (ge_call (ok_l_take T) hgu (hr.mono (by decide)) rfl T.g_l_take T.k_l_take T.b_l_take .nil (fun _ => pass_takes (takes_of rfl rfl rfl rfl)) (pa_cons (pv 0) (pa_cons (pe_callB (call_lenU) (by rfl) T.n_len boot_len (pa_cons (pv 2) pa_nil)) pa_nil))))
 (pss_cons (ps_asg (pe_ix ix_U (pv 1) (pv 4) (fun _ _ => rfl)) (pg_tup (by rfl) (pgs_cons (pg_name (i := 5) sc_l_near.nd rfl (Or.inl rfl)) (pgs_cons (pg_name (i := 6) sc_l_near.nd rfl (Or.inl rfl)) pgs_nil))))
 (pss_cons (ps_set (i := 7) sc_l_near.nd rfl (Or.inl rfl) (pe_lst (pa_cons (pe_tup (pa_cons (ge_call (ok_l_number T) hgu (hr.mono (by decide)) rfl T.g_l_number T.k_l_number T.b_l_number .nil (fun _ => pass_takes (takes_of rfl rfl rfl rfl)) (pa_cons (pv 0) (pa_cons pe_int (pa_cons pe_int pa_nil)))) (pa_cons (pv 6) pa_nil))) (pa_cons (pe_tup (pa_cons (pv 5) (pa_cons (ge_call (ok_l_number T) hgu (hr.mono (by decide)) rfl T.g_l_number T.k_l_number T.b_l_number .nil (fun _ => pass_takes (takes_of rfl rfl rfl rfl)) (pa_cons (pv 0) (pa_cons (pe_un un_neg pe_int) (pa_cons pe_int pa_nil)))) pa_nil))) (pa_cons (pe_tup (pa_cons (pv 5) pa_nil)) (pa_cons (pe_lst (pa_cons (pv 5) (pa_cons (pv 6) pa_nil))) pa_nil))))))
 (pss_one (ps_asg (pe_ix ix_U (pe_op op_addU (pv 7) (pe_lst (pa_cons (pe_tup (pa_cons (pv 5) (pa_cons (pv 6) (pa_cons pe_int pa_nil)))) (pa_cons pe_non (pa_cons (pv 5) pa_nil))))) (ge_call (ok_l_take T) hgu (hr.mono (by decide)) rfl T.g_l_take T.k_l_take T.b_l_take .nil (fun _ => pass_takes (takes_of rfl rfl rfl rfl)) (pa_cons (pv 0) (pa_cons pe_int pa_nil))) (fun _ _ => rfl)) (pg_sub (pv 2) (pv 4) set_list)))))))
 (pss_cons (ps_set (i := 8) sc_l_near.nd rfl (Or.inl rfl) (ge_call (ok_l_take T) hgu (hr.mono (by decide)) rfl T.g_l_take T.k_l_take T.b_l_take .nil (fun _ => pass_takes (takes_of rfl rfl rfl rfl)) (pa_cons (pv 0) (pa_cons pe_int pa_nil))))
 (pss_cons (ps_if (pt_cmpR (op_eqU hr.units) (pv 8) pe_int (nomark _)) (pss_one (ps_ret (pe_ix ix_U (pe_lst (pa_cons (pe_lstM pa_nil) (pa_cons (pe_tup pa_nil) (pa_cons (pe_slice sl_UM (pe_op op_mulU (pv 1) pe_int) po_none (po_some pe_int)) (pa_cons pe_non (pa_cons pe_str (pa_cons pe_int (pa_cons ((pe_disp (pps_cons pe_int (pe_ix ix_U (pv 1) pe_int (fun _ _ => rfl)) pps_nil) (by rfl) (by rfl) (fun z => by cases z) (by decide))) (pa_cons (pe_slice sl_UM (pe_op op_mulU (pv 1) pe_int) po_none (po_some pe_int)) pa_nil))))))))) (ge_call (ok_l_take T) hgu (hr.mono (by decide)) rfl T.g_l_take T.k_l_take T.b_l_take .nil (fun _ => pass_takes (takes_of rfl rfl rfl rfl)) (pa_cons (pv 0) (pa_cons pe_int pa_nil))) (fun _ _ => rfl)))) pss_nil)
 (pss_one (ps_ret (pe_ifExp (pt_cmpR op_lt (pv 8) pe_int (nomark _)) (pe_callTy call_tupU (by rfl) T.n_tuple boot_tuple (pa_cons (pv 2) pa_nil)) (pv 2)))))))), ?_⟩)
  · obtain ⟨b, p, xs, ns, R, D, x, y, z, n, rfl, _⟩ := h
    rfl
  · obtain ⟨b, p, xs, ns, R, D, x, y, z, n, rfl, hI, hb, hn, ep, pl, n1, n52, wo, go⟩ := h
    wtm_at "go"
    wtm_at "sn"
    rename_i pf H1 hI1 tn x1 y1 z1 H2 hI2 bo2 t0 t3
    have hl := pl.length
    refine for_rng (fun i σ R' D' => ∃ (v3 v4 v5 v6 v7 v8 : Option V) (zs : List V) (bs : List Bool) (x y z : Int) (n' : Nat), σ = [some (.ref b), some (.ref p), some (.ref pf), v3, v4, v5, v6, v7, v8] ∧ R' = (pf, .lst zs) :: (b, bx x y z) :: R ∧ BoxOk n' x y z ∧ n' ≤ n + 1 + 20 * i ∧ Ex D D' ∧ ItL K D' zs bs ∧ zs.length = xs.length ∧ ∀ v ∈ zs, ShS K D' v 61000 22) hI2.swap ⟨_, _, _, _, _, _, xs, _, _, _, _, _, rfl, rfl, bo2, by omega, Ex.refl _, ItL.of pl wo, rfl, sh_pairs pl wo⟩ (fun i σ R' D' H' hi hI' q => ?_) (fun σ R' D' H' hI' q => ?_)
    · obtain ⟨v3, v4, v5, v6, v7, v8, zs, bs, x', y', z', n', rfl, rfl, bo', hn', xq, il, zl, sh⟩ := q
      wtm_at "sn"
      rename_i at_ x2 y2 z2 H3 hI3 bo3 a0 a1
      have hlt : at_.toNat < ns.length := by omega
      obtain ⟨v, e1, pv⟩ := pl.get (List.getElem?_eq_getElem hlt)
      have wk := wo _ (List.getElem_mem hlt)
      generalize ns[at_.toNat] = pr at *
      obtain ⟨q, rfl, eq⟩ := pv.mono xq
      refine RIx.l (hI3.dat (xq _ _ ep)) ((atI_ofI (by omega)).trans e1) ?_
      wtm_at "sn"
      refine lnumberD_use hI3 bo3 (by omega) (by omega) (by omega) (by omega) (by omega) (fun va x4 y4 z4 n4 H4 D4 hI4 xx4 bo4 hn4 tha sha => ?_)
      wtm_at "sn"
      rename_i ta H5 D5 hI5 xx5 eta
      refine lnumberD_use hI5 bo4 (by omega) (by omega) (by omega) (by omega) (by omega) (fun vb x6 y6 z6 n6 H6 D6 hI6 xx6 bo6 hn6 thb shb => ?_)
      wtm_at "sn"
      rename_i tb H7 D7 hI7 xx7 etb tc H8 D8 hI8 xx8 etc lw H9 D9 hI9 xx9 elw so H10 D10 hI10 xx10 eso t3' H11 D11 hI11 xx11 et3 l2 H12 D12 hI12 xx12 el2 l7 H13 D13 hI13 xx13 el7 r14 x14 y14 z14 H14 hI14 bo14 r140 r141
      have xa : Ex D8 D13 := xx9.trans (xx10.trans (xx11.trans (xx12.trans xx13)))
      have xb : Ex D7 D13 := xx8.trans xa
      have xc : Ex D5 D13 := xx6.trans (xx7.trans xb)
      have xd : Ex D' D13 := xx4.trans (xx5.trans xc)
      have si : ∀ i : Int, i.natAbs ≤ 1000 → ShS K D13 (.int i) 30000 20 := fun i h => (ShS.int (Nat.lt_of_le_of_lt h (by decide))).le (by decide) (by decide)
      have w1 := si pr.1 (by have := wk.w0; have := wk.w1; omega)
      have w2 := si pr.2 (by have := wk.c0; have := wk.c1; omega)
      have P2 : ∀ (a : Addr) (u v : V), D13 a = some (.tup [u, v]) → Th K D13 u → Th K D13 v → ShS K D13 u 30000 20 → ShS K D13 v 30000 20 → ∃ bb, Itm K D13 (.ref a) bb ∧ ShS K D13 (.ref a) 61000 22 := fun a u v e t1 t2 s1 s2 =>
        ⟨_, .two e t1 t2, (ShS.tup (n := 30000) (k := 20) e (ShLs.of (all_c s1 (all_c s2 all_n)))).le (by show 30000 * 2 + 2 * 2 + 3 ≤ 61000; omega) (by decide)⟩
      have sI : ∀ i : Int, i.natAbs ≤ 1000 → ShS K D13 (.int i) 31 0 := fun i h => ShS.int (Nat.lt_of_le_of_lt h (by decide))
      have v1 := sI pr.1 (by have := wk.w0; have := wk.w1; omega)
      have v2 := sI pr.2 (by have := wk.c0; have := wk.c1; omega)
      refine RIx.pick (P := fun v => ∃ bb, Itm K D13 v bb ∧ ShS K D13 v 61000 22) (hI14.dat el7) (all_c (P2 _ _ _ (xc _ _ eta) (tha.mono (xx5.trans xc)) (Th.kn (.int _)) (sha.mono (xx5.trans xc)) w2) (all_c (P2 _ _ _ (xb _ _ etb) (Th.kn (.int _)) (thb.mono (xx7.trans xb)) w1 (shb.mono (xx7.trans xb)))
        (all_c ⟨_, .tup (xa _ _ etc) (by simp), (ShS.tup (n := 31) (k := 0) (xa _ _ etc) (ShLs.of (all_c v1 all_n))).le (by show 31 * 1 + 2 * 1 + 3 ≤ 61000; omega) (by decide)⟩
        (all_c ⟨_, .oth (.lst ((xx10.trans (xx11.trans (xx12.trans xx13))) _ _ elw)) rfl, (ShS.lst (n := 31) (k := 0) ((xx10.trans (xx11.trans (xx12.trans xx13))) _ _ elw) (ShLs.of (all_c v1 (all_c v2 all_n)))).le (by show 31 * 2 + 2 * 2 + 3 ≤ 61000; omega) (by decide)⟩
        (all_c ⟨_, .tup ((xx12.trans xx13) _ _ et3) (by simp), (ShS.tup (n := 31) (k := 0) ((xx12.trans xx13) _ _ et3) (ShLs.of (all_c v1 (all_c v2 (all_c (sI 0 (by decide)) all_n))))).le (by show 31 * 3 + 2 * 3 + 3 ≤ 61000; omega) (by decide)⟩
        (all_c ⟨_, .oth .non rfl, ShS.non.le (by decide) (by decide)⟩ (all_c ⟨_, .oth (.int _) rfl, v1.le (by decide) (by decide)⟩ all_n))))))) r140 r141 (fun v hv => ?_)
      obtain ⟨bb, it, sv⟩ := hv
      wtm_at "sn"
      refine set_c2 hI14 (ixN_of12 (j := at_.toNat) (by omega) (by omega)) (fun H15 hI15 => ?_)
      refine ⟨_, _, hI15.swap, _, _, _, _, _, _, _, _, _, _, _, _, rfl, rfl, bo14, by omega, xq.trans xd, ItL.set it _ (il.mono xd), by rw [List.length_set]; exact zl, fun u hu => ?_⟩
      rcases List.mem_or_eq_of_mem_set hu with h | h
      · exact (sh u h).mono xd
      · rw [h]; exact sv
    · obtain ⟨v3, v4, v5, v6, v7, v8, zs, bs, x', y', z', n', rfl, rfl, bo', hn', xq, il, zl, sh⟩ := q
      wtm_at "sn"
      rename_i way x2 y2 z2 H3 hI3 bo3 w0 w8
      have ss : ∀ {ys : List V}, (∀ v ∈ ys, v ∈ xs) → ∀ v ∈ ys, ShS K D v 61000 22 := fun h v hv => sh_pairs pl wo v (h v hv)
      have si : ∀ {ys : List V}, (∀ v ∈ ys, v ∈ xs) → ItL K D ys (ys.map fun _ => true) := fun h => ItL.all fun v hv => pairs_itm pl wo v (h v hv)
      refine if_dec (fun h => ?_) (fun h => ?_)
      · wtm_at "sn"
        rename_i c0 H4 hI4 te H5 D5 hI5 xx5 ete
        refine RMul.lst (hI5.dat ((xq.trans xx5) _ _ ep)) (by omega) (by omega) (small_ok (by show xs.length * 53 ≤ 1000000; omega)) ?_
        wtm_at "sn"
        refine RSlM.lst (by wtm_at "hp") ?_
        wtm_at "sn"
        rename_i pm1 H6 D6 hI6 xx6 em1 c53 H7 hI7 pd H8 hI8
        obtain ⟨v0, e0, pv0⟩ := pl.get (List.getElem?_eq_getElem (show 0 < ns.length by omega))
        refine RIx.l (hI8.dat ((xq.trans (xx5.trans xx6)) _ _ ep)) ((atI_ofI (i := 0) (by omega)).trans e0) ?_
        wtm_at "sn"
        rename_i H9 hI9
        refine RMul.lst (hI9.dat ((xq.trans (xx5.trans xx6)) _ _ ep)) (by omega) (by omega) (small_ok (by show xs.length * 53 ≤ 1000000; omega)) ?_
        wtm_at "sn"
        refine RSlM.lst (by wtm_at "hp") ?_
        wtm_at "sn"
        rename_i pm2 H10 D10 hI10 xx10 em2 c99 H11 hI11 so H12 D12 hI12 xx12 eso r x13 y13 z13 H13 hI13 bo13 r0 r8
        obtain ⟨DF, hF, xF, eF⟩ := (HI.front (A := [_, _]) hI13).fr1
        have xb : Ex D5 DF := xx6.trans (xx10.trans (xx12.trans xF))
        have xd : Ex D DF := xq.trans (xx5.trans xb)
        obtain ⟨m53, l53⟩ := cut_many (xs := xs) (k := 53)
        obtain ⟨m99, l99⟩ := cut_many (xs := xs) (k := 99)
        have mv0 : v0 ∈ xs := List.mem_of_getElem? e0
        refine RIx.pick (P := fun v => ∃ C, HI H13 (C ++ (b, bx x13 y13 z13) :: R) DF ∧ Near K DF C v) (hI13.dat eso)
          (all_c ⟨[(c0, .lst [])], (HI.front (A := [_, _, _]) hF).sublist (((List.sublist_append_right [_, _, _] R).cons₂ _).cons₂ _), .lst .nil (by decide) all_n⟩
          (all_c ⟨[], hF.sublist ((List.sublist_append_right [_, _, _, _] R).cons₂ _), .tup (xb _ _ ete) .nil (by decide) all_n⟩
          (all_c ⟨[(c53, _)], (HI.front (A := [_, _]) hF).sublist (((List.sublist_append_right [_, _, _] R).cons₂ _).cons₂ _), .lst ((si m53).mono xd) (Nat.le_trans l53 (by decide)) fun v hv => (ss m53 v hv).mono xd⟩
          (all_c ⟨[], hF.sublist ((List.sublist_append_right [_, _, _, _] R).cons₂ _), .oth .non rfl rfl (ShS.non.le (by decide) (by decide))⟩
          (all_c ⟨[], hF.sublist ((List.sublist_append_right [_, _, _, _] R).cons₂ _), .oth (.str _) rfl rfl ((ShS.str (sg_of rfl)).le (by decide) (by decide))⟩
          (all_c ⟨[], hF.sublist ((List.sublist_append_right [_, _, _, _] R).cons₂ _), .oth (.int _) rfl rfl ((ShS.int (by decide)).le (by decide) (by decide))⟩
          (all_c ⟨[], hF.sublist ((List.sublist_append_right [_, _, _, _] R).cons₂ _), .oth (.dict eF) rfl rfl ((ShS.dict (n := 61000) (k := 22) eF (all_c ⟨(by decide : (1 : Int).natAbs < 10 ^ 30), (sh_pairs pl wo v0 mv0).mono xd⟩ all_n)).le (by show (61000 + 702) * 1 + 2 * 1 + 3 ≤ 6500000; omega) (by decide))⟩
          (all_c ⟨[(c99, _)], (HI.front (A := [_]) hF).sublist (((List.sublist_append_right [_, _, _] R).cons₂ _).cons₂ _), .lst ((si m99).mono xd) (Nat.le_trans l99 (by decide)) fun v hv => (ss m99 v hv).mono xd⟩ all_n)))))))) r0 r8 (fun v hv => ?_)
        obtain ⟨C, hC, nr⟩ := hv
        exact go _ C _ _ _ _ _ _ hC xd bo13 (by omega) nr
      · wtm_at "sn"
        refine if_dec (fun h => ?_) (fun h => ?_)
        · wtm_at "sn"
          rename_i pt H4 D4 hI4 xx4 et4
          exact go _ [] _ _ _ _ _ _ (hI4.sublist ((List.sublist_cons_self _ _).cons₂ _)) (xq.trans xx4) bo3 (by omega) (.tup et4 (il.mono xx4) (by omega) fun v hv => (sh v hv).mono xx4)
        · wtm_at "sn"
          exact go _ [(pf, .lst zs)] _ _ _ _ _ _ hI3.swap xq bo3 (by omega) (.lst il (by omega) sh)
theorem Sq3.uniq {R : Cells} {D H : Hp} {p : Addr} {xs ys : List V} (s1 : Sq3 R D p xs) (s2 : Sq3 R D p ys) (hI : HI H R D) : xs = ys := by
  have h1 : H p = some (.lst xs) ∨ H p = some (.tup xs) := by
    cases s1 with
    | l e => exact .inl (hI.dat e)
    | t e => exact .inr (hI.dat e)
    | c m => exact .inl (hI.get m)
  have h2 : H p = some (.lst ys) ∨ H p = some (.tup ys) := by
    cases s2 with
    | l e => exact .inl (hI.dat e)
    | t e => exact .inr (hI.dat e)
    | c m => exact .inl (hI.get m)
  rcases h1 with a | a <;> rcases h2 with b | b <;> rw [a] at b <;> cases b <;> rfl
/-- whether v is weeks -/
def YrIn (K : PySem.W.Frag) (R : Cells) (D : Hp) (v : V) (g : Bool) : Prop := (∃ (p : Addr) (xs : List V) (bs : List Bool), v = .ref p ∧ Sq3 R D p xs ∧ ItL K D xs bs ∧ xs.length ≤ 99 ∧ g = yrB bs) ∨ ∃ k, Kn K D v k ∧ k.is "list" = false ∧ k.is "tuple" = false ∧ g = false
section
variable {K : PySem.W.Frag} {R R' C : Cells} {D D' H : Hp} {v : V} {g : Bool}
theorem YrIn.mono (h : YrIn K R D v g) (x : Ex D D') : YrIn K R D' v g := by
  rcases h with ⟨p, xs, bs, e, sq, il, l, eg⟩ | ⟨k, kn, a, b, eg⟩
  · exact .inl ⟨p, xs, bs, e, sq.mono x, il.mono x, l, eg⟩
  · exact .inr ⟨k, kn.mono x, a, b, eg⟩
theorem YrIn.sub (h : YrIn K R D v g) (s : ∀ q ∈ R, q ∈ R') : YrIn K R' D v g := by
  rcases h with ⟨p, xs, bs, e, sq, il, l, eg⟩ | ⟨k, kn, a, b, eg⟩
  · exact .inl ⟨p, xs, bs, e, sq.sub s, il, l, eg⟩
  · exact .inr ⟨k, kn, a, b, eg⟩
theorem Near.mono (h : Near K D C v) (x : Ex D D') : Near K D' C v := by
  cases h with
  | lst il l s => exact .lst (il.mono x) l fun v hv => (s v hv).mono x
  | tup e il l s => exact .tup (x _ _ e) (il.mono x) l fun v hv => (s v hv).mono x
  | oth kn a b s => exact .oth (kn.mono x) a b (s.mono x)
theorem Near.in (h : Near K D C v) : ∃ g, YrIn K C D v g := by
  cases h with
  | lst il l s => exact ⟨_, .inl ⟨_, _, _, rfl, .c (List.mem_cons_self ..), il, l, rfl⟩⟩
  | tup e il l s => exact ⟨_, .inl ⟨_, _, _, rfl, .t e, il, l, rfl⟩⟩
  | oth kn a b s => exact ⟨_, .inr ⟨_, kn, a, b, rfl⟩⟩
theorem Near.sh (h : Near K D C v) (hI : HI H (C ++ R) D) : ShS K (uni C D) v 6500000 30 := by
  have x : Ex D (uni C D) := hI.dn (OC := C) fun c hc => List.mem_append_left _ hc
  cases h with
  | lst il l s => exact (ShS.lst (n := 61000) (k := 22) (uni_at (OC := [(_, _)]) (by simp) (List.mem_cons_self ..)) (ShLs.of fun v hv => (s v hv).mono x)).le (by omega) (by decide)
  | tup e il l s => exact (ShS.tup (n := 61000) (k := 22) (x _ _ e) (ShLs.of fun v hv => (s v hv).mono x)).le (by omega) (by decide)
  | oth kn a b s => exact s.mono x
end
def spAreW (K : PySem.W.Frag) : Sp := fun vs H Q _ => ∃ (v : V) (g : Bool) (R : Cells) (D : Hp), vs = [v] ∧ HI H R D ∧ YrIn K R D v g ∧ ∀ H' D', HI H' R D' → Ex D D' → Q (.bl g) H'
set_option maxHeartbeats 1000000 in
theorem ok_l_are_weeks {P : Program} {w : World} {K : PySem.W.Frag} {mg : Str → Option Value} {base : Heap} (T : Tx K mg) : FnG P w K mg base 2 (a_l_are_weeks K) ["thing"] (spAreW K) := by
  refine T.f_l_are_weeks.ok sc_l_are_weeks (fun vs H Q E h => ?_) (fun cdv A outer s H vs Q E hgu hr h => ⟨_, (pss_cons (ps_if (PW.pt (pw_or (pt_not (pt_val (pe_callB (show CallR _ (.builtin "isinstance") (RIsiT K) from call_isiTU) (by rfl) T.n_isinstance boot_isinstance (pa_cons (pv 0) (pa_cons (pe_tup (pa_cons (pe_bltn (v := .ty "list") (by rfl) T.n_list boot_list rfl) (pa_cons (pe_bltn (v := .ty "tuple") (by rfl) T.n_tuple boot_tuple rfl) pa_nil))) pa_nil))))) (pw_or1 (pt_not (pt_chain (op_le) (op_le) pe_int (pe_callB (call_lenU) (by rfl) T.n_len boot_len (pa_cons (pv 0) pa_nil)) pe_int))))) (pss_one (ps_ret pe_bl)) pss_nil)
 (pss_cons (ps_for (passes_of rfl) rfl (pi_seq (pv 0)) (pg_name (i := 1) sc_l_are_weeks.nd rfl (Or.inl rfl)) (pss_cons (ps_if (PW.pt (pw_or (pt_not (pt_val (pe_callB (show CallR _ (.builtin "isinstance") (RIsi K) from call_isiU) (by rfl) T.n_isinstance boot_isinstance (pa_cons (pv 1) (pa_cons (pe_bltn (v := .ty "tuple") (by rfl) T.n_tuple boot_tuple rfl) pa_nil))))) (pw_or1 (pt_cmpR (op_neU hr.units) (pe_callB (call_lenU) (by rfl) T.n_len boot_len (pa_cons (pv 1) pa_nil)) pe_int (nomark _))))) (pss_one (ps_ret pe_bl)) pss_nil)
 (pss_one (ps_if (PW.pt (pw_or (pt_not (pt_val (ge_call (ok_l_whole T) hgu (hr.mono (by decide)) rfl T.g_l_whole T.k_l_whole T.b_l_whole .nil (fun _ => pass_takes (takes_of rfl rfl rfl rfl)) (pa_cons (pe_ix ix_U (pv 1) pe_int (fun _ _ => rfl)) (pa_cons pe_int (pa_cons pe_int pa_nil)))))) (pw_or1 (pt_not (pt_val (ge_call (ok_l_whole T) hgu (hr.mono (by decide)) rfl T.g_l_whole T.k_l_whole T.b_l_whole .nil (fun _ => pass_takes (takes_of rfl rfl rfl rfl)) (pa_cons (pe_ix ix_U (pv 1) pe_int (fun _ _ => rfl)) (pa_cons (pe_un un_neg pe_int) (pa_cons pe_int pa_nil))))))))) (pss_one (ps_ret pe_bl)) pss_nil))))
 (pss_one (ps_ret pe_bl)))), ?_⟩)
  · obtain ⟨v, g, R, D, rfl, _⟩ := h
    rfl
  · obtain ⟨v, g, R, D, rfl, hI, yi, go⟩ := h
    rcases yi with ⟨p, xs, bs, rfl, sq, il, lx, rfl⟩ | ⟨k, kn, kl, kt, rfl⟩
    · have hl := il.length
      wtm_at "go"
      wtm_at "sn"
      refine Sq3.isi (by assumption) (sq.mono (by wtm_at "ex")) (by wtm_at "hp") ?_
      wtm_at "sn"
      refine Sq3.len (by assumption) (sq.mono (by wtm_at "ex")) ?_
      by_cases hlen : 1 ≤ bs.length ∧ bs.length ≤ 52
      · obtain ⟨h0, h1⟩ := hlen
        have eb : yrB bs = bs.all id := by unfold yrB; rw [decide_eq_true h0, decide_eq_true h1]; rfl
        rw [eb] at go
        wtm_at "sn"
        rename_i pT H1 D1 hI1 x1 eT
        refine for_seq (sq.mono x1) (fun i σ R' D' => ∃ a1, σ = [some (.ref p), a1] ∧ R' = R ∧ D' = D1 ∧ (bs.take i).all id = true) hI1 ⟨_, rfl, rfl, rfl, rfl⟩ (fun i σ R' D' q => ?_) (fun i v σ R' D' H' hv hI' q => ?_) (fun σ R' D' H' hI' q => ?_)
        · obtain ⟨a1, rfl, rfl, rfl, _⟩ := q
          exact ⟨fun _ q => q, Ex.refl _⟩
        · obtain ⟨a1, rfl, rfl, rfl, ha⟩ := q
          obtain ⟨b, e1, ib⟩ := il.getV hv
          have ib := ib.mono x1
          have hfalse : b = false → bs.all id = false := fun h => by
            rw [h] at e1
            rw [List.all_eq_false]
            exact ⟨false, List.mem_of_getElem? e1, by decide⟩
          have hstep : b = true → (bs.take (i + 1)).all id = true := fun h => by
            rw [take_more e1, List.all_append, ha, h]; rfl
          cases ib with
          | @two q u v eq tu tv =>
            wtm_at "sn"
            rw [if_neg (by simp)]
            wtm_at "sn"
            refine whole_use hI' tu.m (fun H2 hI2 => ?_)
            cases hb : wholeB u 0 400 with
            | false =>
              rw [hfalse (by rw [hb]; rfl)] at go
              wtm_at "sn"
              exact go _ _ hI2 x1
            | true =>
              wtm_at "sn"
              refine whole_use hI2 tv.m (fun H3 hI3 => ?_)
              cases hb2 : wholeB v (-60) 60 with
              | false =>
                rw [hfalse (by rw [hb, hb2]; rfl)] at go
                wtm_at "sn"
                exact go _ _ hI3 x1
              | true =>
                wtm_at "sn"
                exact ⟨_, _, hI3, _, rfl, rfl, rfl, hstep (by rw [hb, hb2]; rfl)⟩
          | @tup q ys eq l =>
            rw [hfalse rfl] at go
            wtm_at "sn"
            exact go _ _ hI' x1
          | @oth v k kn nt =>
            rw [hfalse rfl] at go
            wtm_at "sn"
            exact go _ _ hI' x1
        · obtain ⟨a1, rfl, rfl, rfl, ha⟩ := q
          rw [hl, List.take_of_length_le (Nat.le_refl _)] at ha
          rw [ha] at go
          wtm_at "sn"
          exact go _ _ hI' x1
      · have eb : yrB bs = false := by
          unfold yrB
          by_cases h0 : 1 ≤ bs.length
          · rw [decide_eq_false (fun h1 => hlen ⟨h0, h1⟩)]; simp
          · rw [decide_eq_false h0]; rfl
        rw [eb] at go
        wtm_at "sn"
        refine if_dec (fun h0 => ?_) (fun h0 => ?_)
        · wtm_at "sn"
          exact go _ _ (by assumption) (by wtm_at "ex")
        · wtm_at "sn"
          exact go _ _ (by assumption) (by wtm_at "ex")
    · wtm_at "go"
      wtm_at "sn"
      refine RIsiT.ty (ns := ["list", "tuple"]) (HI.kn (by assumption) (kn.mono (by assumption))) (by wtm_at "hp") (by decide +kernel) ?_
      rw [show (["list", "tuple"].any k.is) = false by simp [kl, kt]]
      wtm_at "sn"
      exact go _ _ (by assumption) (by wtm_at "ex")
theorem are_use {K : PySem.W.Frag} {v : V} {g : Bool} {R : Cells} {D H : Hp} {Q : VK} {E : XK} (hI : HI H R D) (yi : YrIn K R D v g) (q : ∀ H' D', HI H' R D' → Ex D D' → Q (.bl g) H') : spAreW K [v] H Q E := ⟨v, g, R, D, rfl, hI, yi, q⟩
theorem make_yrB {K : PySem.W.Frag} {x dx : Addr} {v : V} {g : Bool} {R : Cells} {D H : Hp} {P : Hp → Prop} {E : XK} (hI : HI H ((x, .ins (He.ga K "Year") dx []) :: (dx, .own x) :: R) D) (yi : YrIn K R D v g)
    (good : g = true → ∀ p xs ns nl td H' D', v = .ref p → Sq3 R D' p xs → PairsL D' xs ns → HI H' ((td, .dK []) :: R) D' → Ex D D' → IsYr K D' x nl td ns → P H') (bad : g = false → Outs E (He.ga K "NoYear") v R D) : spYearInit K [.ref x, v] H (fun v H2 => v = .non ∧ P H2) E := by
  rcases yi with ⟨p, xs, bs, rfl, sq, il, lx, rfl⟩ | ⟨k, kn, kl, kt, rfl⟩
  · refine ⟨x, dx, _, _, D, rfl, hI, .inl ⟨p, xs, bs, rfl, sq.sub fun _ q => List.mem_cons_of_mem _ q, il, by omega, fun hg nl td H' D' h x1 e => ⟨rfl, ?_⟩, fun hg => (bad hg).cell.cell⟩⟩
    have hg2 := hg
    unfold yrB at hg2
    rw [Bool.and_eq_true, Bool.and_eq_true] at hg2
    have h0 := of_decide_eq_true hg2.1
    have h1 := of_decide_eq_true hg2.2.1
    obtain ⟨ns, pl, wo⟩ := il.pairs hg2.2.2
    have hl := il.length
    have hl2 := pl.length
    have h2 : HI H' ((x, .ins (He.ga K "Year") dx (yrF nl td)) :: (dx, .own x) :: (td, .dK []) :: R) D' := h.dn2
    obtain ⟨D2, h3, x2, e2⟩ := h2.freezeI
    have xx := x1.trans x2
    exact good hg p xs ns nl td _ _ rfl (sq.mono xx) (pl.mono xx) h3 xx ⟨⟨dx, e2⟩, ⟨xs, x2 _ _ e, pl.mono xx⟩, by omega, by omega, wo⟩
  · exact ⟨x, dx, _, _, D, rfl, hI, .inr ⟨k, kn, kl, kt, (bad rfl).cell.cell⟩⟩
def spLMadeY (K : PySem.W.Frag) : Sp := fun vs H Q _ => ∃ (v : V) (g : Bool) (R : Cells) (D : Hp), vs = [v] ∧ HI H R D ∧ YrIn K R D v g ∧
  (g = true → ∀ p xs ns t q ys H' D', v = .ref p → Sq3 R D' p xs → PairsL D' xs ns → (∀ w ∈ ns, WOk w) → ns.length ≤ 52 → HI H' R D' → Ex D D' → D' t = some (.tup [.str "told", .ref q]) → D' q = some (.lst ys) → PairsL D' ys ns → Q (.ref t) H') ∧
  (g = false → ∀ t H' D', HI H' R D' → Ex D D' → D' t = some (.tup [.str "year", v]) → Q (.ref t) H')
set_option maxHeartbeats 1000000 in
theorem ok_l_made {P : Program} {w : World} {K : PySem.W.Frag} {mg : Str → Option Value} {base : Heap} (T : Tx K mg) : FnG P w K mg base 6 (a_l_made K) ["thing"] (spLMadeY K) := by
  refine T.f_l_made.ok sc_l_made (fun vs H Q E h => ?_) (fun cdv A outer s H vs Q E hgu hr h => ⟨_, (pss_one (ps_try_A rfl rfl sc_l_made.nd (takes_of rfl rfl rfl rfl) (fun W pn xe tk po => (pss_one (ps_ret (pe_tup (pa_cons pe_str (pa_cons (ge_meth0 (ge_makeN T.mk_Year (ok_Year_init T) hgu (hr.mono (by decide)) rfl T.g_Year T.kb_Year_init_2 (fun _ => pass_takes tk) (pa_cons (pv 0) pa_nil) pk_nil) T.cl_Year T.m_Year_weeks (ok_Year_weeks T) hgu (hr.mono (by decide)) T.b_Year_weeks .nil (fun _ => pass_takes tk)) pa_nil)))))) (HdsA.asn (i := 1) rfl rfl ⟨rfl, by decide, .inl T.g_NoYear⟩ (fun a oe cls d pn hz hf => (pss_one (ps_ret (pe_tup (pa_cons pe_str (pa_cons (pe_byX hz hf (pv 1)) pa_nil)))))) HdsA.never))), ?_⟩)
  · obtain ⟨v, g, R, D, rfl, _⟩ := h
    rfl
  · obtain ⟨v, g, R, D, rfl, hI, yi, good, bad⟩ := h
    wtm_at "go"
    wtm_at "sn"
    rename_i ya dya H1 hI1
    refine make_yrB hI1 yi (fun hg p xs ns nl td H2 D2 ev sq pl hI2 x2 iy => ?_) (fun hg d H2 D2 hI2 x2 ed => ?_)
    · obtain ⟨⟨dx, ea⟩, _, n1, n52, wo⟩ := id iy
      wtm_at "sn"
      refine yweeks_use hI2 (iy.at (kvs := []) (m := fun _ => none) (List.mem_cons_self ..) ⟨fun _ _ => rfl, fun _ _ h => (nomatch h), ⟨[], rfl, .nil, fun _ h => (nomatch h)⟩⟩) (fun q ys H3 D3 hI3 x3 pl3 => ?_)
      rw [show ((ns.length : Int)).toNat = ns.length from rfl, stand_none] at pl3
      obtain ⟨D4, hI4, x4, e4⟩ := hI3.fr1
      wtm_at "sn"
      rename_i t H5 D5 hI5 x5 e5
      have x25 := x3.trans (x4.trans x5)
      exact good hg p xs ns t q ys _ _ ev (sq.mono x25) (pl.mono x25) wo n52 hI5.drop (x2.trans x25) e5 (x5 _ _ e4) (pl3.mono (x4.trans x5))
    · refine as_yes T.ex_NoYear_NoYear (fun a ha => ?_)
      unfold gone
      wtm_at "sn"
      refine by_mk T.x_NoYear.E T.x_NoYear.no (hI2.dat ed) ?_
      wtm_at "sn"
      rename_i p2 H3 D3 hI3 x3 e3
      exact bad hg _ _ _ hI3 (x2.trans x3) e3
theorem lmadeY_use {K : PySem.W.Frag} {v : V} {g : Bool} {R : Cells} {D H : Hp} {Q : VK} {E : XK} (hI : HI H R D) (yi : YrIn K R D v g)
  (good : g = true → ∀ p xs ns t q ys H' D', v = .ref p → Sq3 R D' p xs → PairsL D' xs ns → (∀ w ∈ ns, WOk w) → ns.length ≤ 52 → HI H' R D' → Ex D D' → D' t = some (.tup [.str "told", .ref q]) → D' q = some (.lst ys) → PairsL D' ys ns → Q (.ref t) H')
  (bad : g = false → ∀ t H' D', HI H' R D' → Ex D D' → D' t = some (.tup [.str "year", v]) → Q (.ref t) H') : spLMadeY K [v] H Q E := ⟨v, g, R, D, rfl, hI, yi, good, bad⟩
theorem shw_pairs {K : PySem.W.Frag} {D : Hp} : ∀ {xs : List V} {ns : List (Int × Int)}, PairsL D xs ns → (∀ w ∈ ns, WOk w) → ∃ n, ShwL K D xs (ns.map fun p => tupleText [toString p.1, toString p.2]) n ∧ n ≤ 1
  | _, _, .nil, _ => ⟨0, .nil, Nat.zero_le _⟩
  | _, _, .cons ⟨q, e, h⟩ l, w => by
    obtain ⟨n, s, hn⟩ := shw_pairs l fun x hx => w x (List.mem_cons_of_mem _ hx)
    have ww := w _ (List.mem_cons_self ..)
    have := ww.w0; have := ww.w1; have := ww.c0; have := ww.c1
    rw [e]
    exact ⟨_, .cons (.tup h (.cons (.int _ (log2_small (by omega))) (.cons (.int _ (log2_small (by omega))) .nil))) s, by omega⟩
def yrTx (ns : List (Int × Int)) : Str := tupleText [reprText "told", listText (ns.map fun p => tupleText [toString p.1, toString p.2])]
theorem shw_yr {K : PySem.W.Frag} {D : Hp} {t q : Addr} {xs : List V} {ns : List (Int × Int)} (e : D t = some (.tup [.str "told", .ref q])) (eq : D q = some (.lst xs)) (pl : PairsL D xs ns) (wo : ∀ w ∈ ns, WOk w) : ∃ n, Shw K D (.ref t) (yrTx ns) n ∧ n ≤ 5 := by
  obtain ⟨n, s, hn⟩ := shw_pairs pl wo
  exact ⟨_, .tup e (.cons (.str _) (.cons (.lst eq s) .nil)), by omega⟩
theorem yrTx_len {ns : List (Int × Int)} (wo : ∀ w ∈ ns, WOk w) (l : ns.length ≤ 52) : (yrTx ns).length ≤ 20000 := by
  have h1 := tupleText_len [reprText "told", listText (ns.map fun p => tupleText [toString p.1, toString p.2])]
  have h2 := PySem.listText_len_le (ns.map fun p => tupleText [toString p.1, toString p.2])
  have h3 := len_sum (ts := ns.map fun p => tupleText [toString p.1, toString p.2]) (n := 70) fun t ht => by
    obtain ⟨p, hp, rfl⟩ := List.mem_map.mp ht
    have w := wo p hp
    have := w.w0; have := w.w1; have := w.c0; have := w.c1
    have g := tupleText_len [toString p.1, toString p.2]
    have g1 := (tst (i := p.1) (Nat.lt_of_le_of_lt (by omega : p.1.natAbs ≤ 1000) (by decide))).1
    have g2 := (tst (i := p.2) (Nat.lt_of_le_of_lt (by omega : p.2.natAbs ≤ 1000) (by decide))).1
    simp only [List.map_cons, List.map_nil, List.sum_cons, List.sum_nil, List.length_cons, List.length_nil] at g
    have h8 : (toString p.1 : Str).length = (Str.ofString (toString p.1)).length := rfl
    have h9 : (toString p.2 : Str).length = (Str.ofString (toString p.2)).length := rfl
    omega
  rw [List.length_map] at h2 h3
  have h7 : (reprText (Str.ofString "told")).length ≤ 50 := by decide +kernel
  simp only [List.map_cons, List.map_nil, List.sum_cons, List.sum_nil, List.length_cons, List.length_nil] at h1
  show (tupleText [reprText "told", listText (ns.map fun p => tupleText [toString p.1, toString p.2])]).length ≤ _
  omega
/-- a word and an odd thing in a tuple, shown -/
theorem shw_wordS {K : PySem.W.Frag} {D : Hp} {t : Addr} {v : V} {w : Str} {n k : Nat} (e : D t = some (.tup [.str w, v])) (hw : Sg w) (lw : w.length ≤ 60) (s : ShS K D v n k) : ShS K D (.ref t) (n + 1000) (k + 1) := by
  obtain ⟨tx, m, a, b, c⟩ := s
  refine ⟨_, _, .tup e (.cons (.str w) (.cons a .nil)), ?_, by omega⟩
  have h1 := tupleText_len [reprText w, tx]
  have h2 := repr_len hw
  simp only [List.map_cons, List.map_nil, List.sum_cons, List.sum_nil, List.length_cons, List.length_nil] at h1
  omega
/-- another tuple of the same things is shown alike -/
theorem shw_tup2 {K : PySem.W.Frag} {H H' : Hp} {t t9 : Addr} {vs : List V} {tx : Str} {m : Nat} (e : H t = some (.tup vs)) (e9 : H' t9 = some (.tup vs)) (x : Ex H H') (s : Shw K H (.ref t) tx m) : Shw K H' (.ref t9) tx m := by
  cases s with
  | tup e' l2 =>
    rw [e] at e'
    cases e'
    exact .tup e9 (l2.mono x)
  | exc e' e2 q => obtain ⟨_, z⟩ := exq_is e e'; cases z
  | lst e' l2 => rw [e] at e'; cases e'
  | dict e' l2 => rw [e] at e'; cases e'
def spLMadeR (K : PySem.W.Frag) : Sp := fun vs H Q _ => ∃ (v : V) (C R : Cells) (D : Hp), vs = [v] ∧ HI H (C ++ R) D ∧ Near K D C v ∧ ∀ H' D', HI H' R D' → Ex D D' → Q (.bl true) H'
set_option maxHeartbeats 2000000 in
theorem ok_l_made_right {P : Program} {w : World} {K : PySem.W.Frag} {mg : Str → Option Value} {base : Heap} (T : Tx K mg) : FnG P w K mg base 7 (a_l_made_right K) ["thing"] (spLMadeR K) := by
  refine T.f_l_made_right.ok sc_l_made_right (fun vs H Q E h => ?_) (fun cdv A outer s H vs Q E hgu hr h => ⟨_, (pss_cons (ps_set (i := 1) sc_l_made_right.nd rfl (Or.inl rfl) (pe_ifExp (pt_val (ge_call (ok_l_are_weeks T) hgu (hr.mono (by decide)) rfl T.g_l_are_weeks T.k_l_are_weeks T.b_l_are_weeks .nil (fun _ => pass_takes (takes_of rfl rfl rfl rfl)) (pa_cons (pv 0) pa_nil))) (pe_tup (pa_cons pe_str (pa_cons (pe_callTy call_listU (by rfl) T.n_list boot_list (pa_cons (pv 0) pa_nil)) pa_nil))) (pe_tup (pa_cons pe_str (pa_cons (pv 0) pa_nil)))))
 (pss_cons (ps_set (i := 2) sc_l_made_right.nd rfl (Or.inl rfl) (ge_call (ok_l_made T) hgu (hr.mono (by decide)) rfl T.g_l_made T.k_l_made T.b_l_made .nil (fun _ => pass_takes (takes_of rfl rfl rfl rfl)) (pa_cons (pv 0) pa_nil)))
 (pss_cons (ps_if (pt_cmpR (op_neU hr.units) (pe_callB (show CallR _ (.builtin "repr") (RShw K) from call_reprS hgu hr T.sys) (by rfl) T.n_repr boot_repr (pa_cons (pv 2) pa_nil)) (pe_callB (show CallR _ (.builtin "repr") (RShw K) from call_reprS hgu hr T.sys) (by rfl) T.n_repr boot_repr (pa_cons (pv 1) pa_nil)) (nomark _)) (pss_one (ps_ret pe_bl)) pss_nil)
 (pss_cons (ps_if (PW.pt (pw_and (pt_cmpR (op_eqU hr.units) (pe_ix ix_U (pv 1) pe_int (fun _ _ => rfl)) pe_str (nomark _)) (pw_and1 (pt_val (pe_callB (show CallR _ (.builtin "isinstance") (RIsi K) from call_isiU) (by rfl) T.n_isinstance boot_isinstance (pa_cons (pv 0) (pa_cons (pe_bltn (v := .ty "list") (by rfl) T.n_list boot_list rfl) pa_nil))))))) (pss_one (ps_expr (pe_bm PySem.F.plainAttrs_list PySem.F.slot_list_append PySem.F.type_list_append mt_append (pv 0) (pa_cons pe_str pa_nil)))) pss_nil)
 (pss_one (ps_ret (pe_or (pe_cmpR (op_eqU hr.units) (pe_ix ix_U (pv 1) pe_int (fun _ _ => rfl)) pe_str (nomark _)) (pe_one (pe_cmpR (op_eqU hr.units) (pe_callB (show CallR _ (.builtin "repr") (RShw K) from call_reprS hgu hr T.sys) (by rfl) T.n_repr boot_repr (pa_cons (pv 2) pa_nil)) (pe_callB (show CallR _ (.builtin "repr") (RShw K) from call_reprS hgu hr T.sys) (by rfl) T.n_repr boot_repr (pa_cons (pe_tup (pa_cons pe_str (pa_cons (pv 0) pa_nil))) pa_nil)) (nomark _)))))))))), ?_⟩)
  · obtain ⟨v, C, R, D, rfl, _⟩ := h
    rfl
  · obtain ⟨v, C, R, D, rfl, hI, nr, go⟩ := h
    obtain ⟨g, yi⟩ := nr.in
    have yi := yi.sub (R' := C ++ R) fun q hq => List.mem_append_left _ hq
    wtm_at "go"
    wtm_at "sn"
    refine are_use hI yi (fun H1 D1 hI1 x1 => ?_)
    cases g with
    | true =>
      obtain ⟨p0, xs0, bs0, rfl, sq0, il0, lx0, eg0⟩ : ∃ (p : Addr) (xs : List V) (bs : List Bool), v = .ref p ∧ Sq3 (C ++ R) D p xs ∧ ItL K D xs bs ∧ xs.length ≤ 99 ∧ true = yrB bs := by
        rcases yi with h | ⟨_, _, _, _, h⟩
        · exact h
        · cases h
      wtm_at "sn"
      refine Sq3.list hI1 (sq0.mono x1) ?_
      wtm_at "sn"
      rename_i L2 H2 D2 hI2 x2 e2 t3 H3 D3 hI3 x3 e3
      have x13 := x2.trans x3
      refine lmadeY_use hI3 (yi.mono (x1.trans x13)) (fun _ p xs ns t q ys H4 D4 ev sq pl wo l52 hI4 x4 et eq ply => ?_) (fun h => nomatch h)
      cases ev
      have exs : xs0 = xs := (sq0.mono (x1.trans (x13.trans x4))).uniq sq hI4
      subst exs
      obtain ⟨m1, s1, l1⟩ := shw_yr (K := K) et eq ply wo
      obtain ⟨m2, s2, l2⟩ := shw_yr (K := K) (x4 _ _ e3) ((x3.trans x4) _ _ e2) pl wo
      have tl := yrTx_len wo l52
      wtm_at "sn"
      refine .s (s1.mono hI4.sub) (by omega) (by omega) ?_
      wtm_at "sn"
      refine .s (s2.mono hI4.sub) (by omega) (by omega) ?_
      wtm_at "sn"
      refine if_dec (fun h => absurd h (by decide)) (fun _ => ?_)
      wtm_at "sn"
      exact go _ _ (hI4.sublist (List.sublist_append_right C R)) (x1.trans (x13.trans x4))
    | false =>
      wtm_at "sn"
      rename_i t3 H3 D3 hI3 x3 e3
      refine lmadeY_use hI3 (yi.mono (x1.trans x3)) (fun h => nomatch h) (fun _ t H4 D4 hI4 x4 et => ?_)
      have nr4 := nr.mono (x1.trans (x3.trans x4))
      have e34 := x4 _ _ e3
      have ss : ∀ c ∈ C, c ∈ C ++ R := fun c hc => List.mem_append_left _ hc
      have hsh := nr4.sh hI4
      obtain ⟨tx, m, s, l, lm, s2⟩ : ∃ tx m, Shw K H4 (.ref t) tx m ∧ tx.length ≤ 6501000 ∧ m ≤ 31 ∧ Shw K H4 (.ref t3) tx m := by
        have dn := hI4.dn ss
        have un := hI4.uni ss
        obtain ⟨tx, m, s, l, lm⟩ := shw_wordS (dn _ _ et) (sg_of rfl) (by decide) hsh
        refine ⟨tx, m, s.mono un, by omega, by omega, ?_⟩
        cases s with
        | tup e l2 =>
          rw [dn _ _ et] at e
          cases e
          exact .tup (un _ _ (dn _ _ e34)) (l2.mono un)
        | exc e e2 q => obtain ⟨_, z⟩ := exq_is (dn _ _ et) e; cases z
        | lst e l2 => rw [dn _ _ et] at e; cases e
        | dict e l2 => rw [dn _ _ et] at e; cases e
      wtm_at "sn"
      refine .s s (by omega) (by omega) ?_
      wtm_at "sn"
      refine .s s2 (by omega) (by omega) ?_
      wtm_at "sn"
      cases nr4 with
      | @lst p xs bs il lx sh =>
        wtm_at "sn"
        rename_i H5 hI5
        refine if_dec (fun h => absurd h (by decide)) (fun _ => ?_)
        have hI5 : HI H5 ([(p, HO.lst (xs ++ [V.str (Str.ofString "more")]))] ++ R) D4 := hI5
        have hs5 : ShS K (uni [(p, HO.lst (xs ++ [V.str (Str.ofString "more")]))] D4) (.ref p) 6500000 30 := (ShS.lst (n := 61000) (k := 22) (uni_at (OC := [(_, _)]) (by simp) (List.mem_cons_self ..)) (ShLs.of fun v hv => by
          rcases List.mem_append.mp hv with h | h
          · exact (sh v h).mono (hI5.dn (by simp))
          · rw [List.mem_singleton.mp h]
            exact (ShS.str (z := Str.ofString "more") (sg_of rfl)).le (by decide) (by decide))).le (by rw [List.length_append]; show 61000 * (xs.length + 1) + 2 * (xs.length + 1) + 3 ≤ 6500000; omega) (by decide)
        wtm_at "sn"
        obtain ⟨tx5, m5, s5, l5, lm5⟩ := shw_wordS (hI5.dn (OC := [(p, HO.lst (xs ++ [V.str (Str.ofString "more")]))]) (by simp) _ _ et) (sg_of rfl) (by decide) hs5
        refine .s (s5.mono (hI5.uni (by simp))) (by omega) (by omega) ?_
        wtm_at "sn"
        rename_i t6 H6 D6 hI6 x6 e6
        have s6 := shw_tup2 (hI5.dn (OC := [(p, HO.lst (xs ++ [V.str (Str.ofString "more")]))]) (by simp) _ _ et) (hI6.dn (OC := [(p, HO.lst (xs ++ [V.str (Str.ofString "more")]))]) (by simp) _ _ e6) (uni_ex x6) s5
        refine .s (s6.mono (hI6.uni (by simp))) (by omega) (by omega) ?_
        wtm_at "sn"
        exact go _ _ (hI6.sublist (List.sublist_append_right [(p, HO.lst (xs ++ [V.str (Str.ofString "more")]))] R)) (x1.trans (x3.trans (x4.trans x6)))
      | @tup p xs bs e il lx sh =>
        wtm_at "sn"
        refine if_dec (fun h => absurd h (by decide)) (fun _ => ?_)
        have hs5 := hsh
        wtm_at "sn"
        obtain ⟨tx5, m5, s5, l5, lm5⟩ := shw_wordS (hI4.dn (OC := []) (by simp) _ _ et) (sg_of rfl) (by decide) hs5
        refine .s (s5.mono (hI4.uni (by simp))) (by omega) (by omega) ?_
        wtm_at "sn"
        rename_i t6 H6 D6 hI6 x6 e6
        have s6 := shw_tup2 (hI4.dn (OC := []) (by simp) _ _ et) (hI6.dn (OC := []) (by simp) _ _ e6) (uni_ex x6) s5
        refine .s (s6.mono (hI6.uni (by simp))) (by omega) (by omega) ?_
        wtm_at "sn"
        exact go _ _ (hI6.sublist (List.sublist_append_right [] R)) (x1.trans (x3.trans (x4.trans x6)))
      | @oth v k kn nl nt sh =>
        wtm_at "sn"
        refine if_dec (fun h => absurd h (by decide)) (fun _ => ?_)
        have hs5 := hsh
        wtm_at "sn"
        obtain ⟨tx5, m5, s5, l5, lm5⟩ := shw_wordS (hI4.dn (OC := []) (by simp) _ _ et) (sg_of rfl) (by decide) hs5
        refine .s (s5.mono (hI4.uni (by simp))) (by omega) (by omega) ?_
        wtm_at "sn"
        rename_i t6 H6 D6 hI6 x6 e6
        have s6 := shw_tup2 (hI4.dn (OC := []) (by simp) _ _ et) (hI6.dn (OC := []) (by simp) _ _ e6) (uni_ex x6) s5
        refine .s (s6.mono (hI6.uni (by simp))) (by omega) (by omega) ?_
        wtm_at "sn"
        exact go _ _ (hI6.sublist (List.sublist_append_right [] R)) (x1.trans (x3.trans (x4.trans x6)))
theorem lmadeR_use {K : PySem.W.Frag} {v : V} {C R : Cells} {D H : Hp} {Q : VK} {E : XK} (hI : HI H (C ++ R) D) (nr : Near K D C v) (q : ∀ H' D', HI H' R D' → Ex D D' → Q (.bl true) H') : spLMadeR K [v] H Q E := ⟨v, C, R, D, rfl, hI, nr, q⟩
def spBackB (K : PySem.W.Frag) : Sp := fun vs H Q E => ∃ (a nl td : Addr) (ns : List (Int × Int)) (kvs : List (Key × V)) (m : Int → Option (Int × Int)) (v : V) (R : Cells) (D : Hp), vs = [.ref a, v] ∧ HI H R D ∧ IsYr K D a nl td ns ∧ ((td, HO.dK kvs) : Addr × HO) ∈ R ∧ Told D kvs m ns.length ∧ Mt K R D v ∧
  (wholeB v 1 ns.length = false → Outs E (He.ga K "NoWeek") v R D) ∧ (wholeB v 1 ns.length = true → ∃ k, v = .int k ∧ m k = none ∧ Outs E (He.ga K "NotThere") v R D)
set_option maxHeartbeats 1000000 in
theorem ok_Year_back {P : Program} {w : World} {K : PySem.W.Frag} {mg : Str → Option Value} {base : Heap} (T : Tx K mg) : FnG P w K mg base 5 (a_Year_back K) ["self", "week"] (spBackB K) := by
  refine T.f_Year_back.ok sc_Year_back (fun vs H Q E h => ?_) (fun cdv A outer s H vs Q E hgu hr h => ⟨_, (pss_cons (ps_expr (ge_meth (pv 0) T.cl_Year T.m_Year_need_week (ok_Year_need_week T) hgu (hr.mono (by decide)) T.b_Year_need_week .nil (fun _ => pass_takes (takes_of rfl rfl rfl rfl)) (pa_cons (pv 1) pa_nil)))
 (pss_cons (ps_if (pt_cmp (pc_dnotin (by exact hu1 hr) (pv 1) (pe_fld (pv 0) rfl))) (pss_one (LE.ps_raiseX rfl (takes_of rfl rfl rfl rfl) T.x_NotThere (ok_NotThere_init T) T.b_NotThere_init (hr.mono (by decide)) rfl (pa_cons (pv 1) pa_nil))) pss_nil)
 (pss_one (ps_expr (pe_dpop1 (pe_fld (pv 0) rfl) (pv 1) ⟨rfl, rfl, rfl, rfl⟩))))), ?_⟩)
  · obtain ⟨a, nl, td, ns, kvs, m, v, R, D, rfl, _⟩ := h
    rfl
  · obtain ⟨a, nl, td, ns, kvs, m, v, R, D, rfl, hI, iy, mm, told, mv, bad1, bad2⟩ := h
    have pc := T.pc_Year
    have yr := iy.at mm told
    obtain ⟨⟨dx, ea⟩, ⟨xs, en, pl⟩, l0, l1, wo⟩ := id iy
    wtm_at "go"
    wtm_at "sn"
    refine need_week_use hI yr mv (fun hb H1 hI1 => ?_) bad1
    obtain ⟨k, rfl, em, bad⟩ := bad2 hb
    have ev := told.no k em
    have et := hI1.get mm
    wtm_at "sn"
    rw [ev]
    refine iteT ?_
    wtm_at "sn"
    exact bad _ _ _ (by assumption) (by wtm_at "ex") (by wtm_at "dat")
theorem backB_use {K : PySem.W.Frag} {a nl td : Addr} {ns : List (Int × Int)} {kvs : List (Key × V)} {m : Int → Option (Int × Int)} {v : V} {R : Cells} {D H : Hp} {Q : VK} {E : XK} (hI : HI H R D) (iy : IsYr K D a nl td ns) (mm : ((td, HO.dK kvs) : Addr × HO) ∈ R) (t : Told D kvs m ns.length) (mv : Mt K R D v)
  (bad1 : wholeB v 1 ns.length = false → Outs E (He.ga K "NoWeek") v R D) (bad2 : wholeB v 1 ns.length = true → ∃ k, v = .int k ∧ m k = none ∧ Outs E (He.ga K "NotThere") v R D) : spBackB K [.ref a, v] H Q E := ⟨a, nl, td, ns, kvs, m, v, R, D, rfl, hI, iy, mm, t, mv, bad1, bad2⟩
inductive Due (n wk way : Int) (v0 v1 v2 : V) : Str → V → Prop
  | week (a : wholeB v0 1 n = false) : Due n wk way v0 v1 v2 "week" v0
  | num1 (a : wholeB v0 1 n = true) (w : way = 0) (b : wholeB v1 0 400 = false) : Due n wk way v0 v1 v2 "number" v1
  | num2 (a : wholeB v0 1 n = true) (w : way = 0) (b : wholeB v1 0 400 = true) (nn : v2 ≠ .non) (c : wholeB v2 (-60) 60 = false) : Due n wk way v0 v1 v2 "number" v2
  | there {k : Int} (a : wholeB v0 1 n = true) (w : way = 1) (e : v0 = .int k) (ne : k ≠ wk) : Due n wk way v0 v1 v2 "there" v0
  | week2 (a : wholeB v0 1 n = true) (w : 3 < way) (b : wholeB v1 1 n = false) : Due n wk way v0 v1 v2 "week" v1
def spLDueY (K : PySem.W.Frag) : Sp := fun vs H Q _ => ∃ (tl pp : Addr) (n wk way : Int) (v0 v1 v2 : V) (R : Cells) (D : Hp), vs = [.int n, .ref tl, .int way, .ref pp] ∧ HI H R D ∧ D tl = some (.lst [.int wk]) ∧ PAt R D pp [v0, v1, v2] ∧ Mt K R D v0 ∧ Mt K R D v1 ∧ Mt K R D v2 ∧ 0 ≤ way ∧ way ≤ 5 ∧
  (∀ w u t H' D', Due n wk way v0 v1 v2 w u → HI H' R D' → Ex D D' → D' t = some (.tup [.str w, u]) → Q (.ref t) H') ∧ ∀ H' D', HI H' R D' → Ex D D' → Q .non H'
set_option maxHeartbeats 1000000 in
theorem ok_l_due {P : Program} {w : World} {K : PySem.W.Frag} {mg : Str → Option Value} {base : Heap} (T : Tx K mg) : FnG P w K mg base 2 (a_l_due K) ["many", "told", "way", "things"] (spLDueY K) := by
  refine T.f_l_due.ok sc_l_due (fun vs H Q E h => ?_) (fun cdv A outer s H vs Q E hgu hr h => ⟨_, (pss_cons (ps_if (pt_not (pt_val (ge_call (ok_l_whole T) hgu (hr.mono (by decide)) rfl T.g_l_whole T.k_l_whole T.b_l_whole .nil (fun _ => pass_takes (takes_of rfl rfl rfl rfl)) (pa_cons (pe_ix ix_U (pv 3) pe_int (fun _ _ => rfl)) (pa_cons pe_int (pa_cons (pv 0) pa_nil)))))) (pss_one (ps_ret (pe_tup (pa_cons pe_str (pa_cons (pe_ix ix_U (pv 3) pe_int (fun _ _ => rfl)) pa_nil))))) pss_nil)
 (pss_cons (ps_if (PW.pt (pw_and (pt_cmpR (op_eqU hr.units) (pv 2) pe_int (nomark _)) (pw_and1 (pt_not (pt_val (ge_call (ok_l_whole T) hgu (hr.mono (by decide)) rfl T.g_l_whole T.k_l_whole T.b_l_whole .nil (fun _ => pass_takes (takes_of rfl rfl rfl rfl)) (pa_cons (pe_ix ix_U (pv 3) pe_int (fun _ _ => rfl)) (pa_cons pe_int (pa_cons pe_int pa_nil))))))))) (pss_one (ps_ret (pe_tup (pa_cons pe_str (pa_cons (pe_ix ix_U (pv 3) pe_int (fun _ _ => rfl)) pa_nil))))) pss_nil)
 (pss_cons (ps_if (PW.pt (pw_and (pt_cmpR (op_eqU hr.units) (pv 2) pe_int (nomark _)) (pw_and (pt_cmpR op_isnU (pe_ix ix_U (pv 3) pe_int (fun _ _ => rfl)) pe_non (nomark _)) (pw_and1 (pt_not (pt_val (ge_call (ok_l_whole T) hgu (hr.mono (by decide)) rfl T.g_l_whole T.k_l_whole T.b_l_whole .nil (fun _ => pass_takes (takes_of rfl rfl rfl rfl)) (pa_cons (pe_ix ix_U (pv 3) pe_int (fun _ _ => rfl)) (pa_cons (pe_un un_neg pe_int) (pa_cons pe_int pa_nil)))))))))) (pss_one (ps_ret (pe_tup (pa_cons pe_str (pa_cons (pe_ix ix_U (pv 3) pe_int (fun _ _ => rfl)) pa_nil))))) pss_nil)
 (pss_cons (ps_if (PW.pt (pw_and (pt_cmpR (op_eqU hr.units) (pv 2) pe_int (nomark _)) (pw_and1 (pt_cmpR op_niU (pe_ix ix_U (pv 3) pe_int (fun _ _ => rfl)) (pv 1) (by rfl))))) (pss_one (ps_ret (pe_tup (pa_cons pe_str (pa_cons (pe_ix ix_U (pv 3) pe_int (fun _ _ => rfl)) pa_nil))))) pss_nil)
 (pss_cons (ps_if (PW.pt (pw_and (pt_cmpR op_gt (pv 2) pe_int (nomark _)) (pw_and1 (pt_not (pt_val (ge_call (ok_l_whole T) hgu (hr.mono (by decide)) rfl T.g_l_whole T.k_l_whole T.b_l_whole .nil (fun _ => pass_takes (takes_of rfl rfl rfl rfl)) (pa_cons (pe_ix ix_U (pv 3) pe_int (fun _ _ => rfl)) (pa_cons pe_int (pa_cons (pv 0) pa_nil))))))))) (pss_one (ps_ret (pe_tup (pa_cons pe_str (pa_cons (pe_ix ix_U (pv 3) pe_int (fun _ _ => rfl)) pa_nil))))) pss_nil)
 (pss_one (ps_ret pe_non))))))), ?_⟩)
  · obtain ⟨tl, pp, n, wk, way, v0, v1, v2, R, D, rfl, _⟩ := h
    rfl
  · obtain ⟨tl, pp, n, wk, way, v0, v1, v2, R, D, rfl, hI, et, mp, m0, m1, m2, w0, w5, some_, none_⟩ := h
    have ep := mp.h hI
    wtm_at "go"
    wtm_at "sn"
    refine whole_use hI m0 (fun H1 hI1 => ?_)
    have ep1 := mp.h hI1
    cases h0 : wholeB v0 1 n with
    | false =>
      wtm_at "sn"
      rename_i p2 H2 D2 hI2 x2 e2
      exact some_ _ _ _ _ _ (.week h0) hI2 x2 e2
    | true =>
      have hway : way = 0 ∨ way = 1 ∨ way = 2 ∨ way = 3 ∨ way = 4 ∨ way = 5 := by omega
      rcases hway with rfl | rfl | rfl | rfl | rfl | rfl
      · wtm_at "sn"
        refine whole_use hI1 m1 (fun H2 hI2 => ?_)
        have ep2 := mp.h hI2
        cases h1 : wholeB v1 0 400 with
        | false =>
          wtm_at "sn"
          rename_i p3 H3 D3 hI3 x3 e3
          exact some_ _ _ _ _ _ (.num1 h0 rfl h1) hI3 x3 e3
        | true =>
          by_cases hc : v2 = .non
          · subst hc
            wtm_at "sn"
            exact none_ _ _ hI2 (Ex.refl _)
          · wtm_at "sn"
            refine whole_use hI2 m2 (fun H3 hI3 => ?_)
            have ep3 := mp.h hI3
            cases h2 : wholeB v2 (-60) 60 with
            | false =>
              wtm_at "sn"
              rename_i p4 H4 D4 hI4 x4 e4
              exact some_ _ _ _ _ _ (.num2 h0 rfl h1 hc h2) hI4 x4 e4
            | true =>
              wtm_at "sn"
              exact none_ _ _ hI3 (Ex.refl _)
      · obtain ⟨k, rfl, k0, k1⟩ := whole_is h0
        wtm_at "sn"
        refine rni_lst (hI1.dat et) rfl rfl ?_
        have ei : inV (.int k) [.int wk] = decide (k = wk) := by
          have h1 : L2.eqV (.int wk) (.int k) = decide (wk = k) := rfl
          simp [inV, h1, eq_comm]
        rw [ei]
        by_cases hk : k = wk
        · rw [decide_eq_true hk]
          wtm_at "sn"
          exact none_ _ _ hI1 (Ex.refl _)
        · rw [decide_eq_false hk]
          wtm_at "sn"
          rename_i p3 H3 D3 hI3 x3 e3
          exact some_ _ _ _ _ _ (.there h0 rfl rfl hk) hI3 x3 e3
      · wtm_at "sn"
        exact none_ _ _ hI1 (Ex.refl _)
      · wtm_at "sn"
        exact none_ _ _ hI1 (Ex.refl _)
      · wtm_at "sn"
        refine whole_use hI1 m1 (fun H2 hI2 => ?_)
        have ep2 := mp.h hI2
        cases h1 : wholeB v1 1 n with
        | false =>
          wtm_at "sn"
          rename_i p3 H3 D3 hI3 x3 e3
          exact some_ _ _ _ _ _ (.week2 h0 (by decide) h1) hI3 x3 e3
        | true =>
          wtm_at "sn"
          exact none_ _ _ hI2 (Ex.refl _)
      · wtm_at "sn"
        refine whole_use hI1 m1 (fun H2 hI2 => ?_)
        have ep2 := mp.h hI2
        cases h1 : wholeB v1 1 n with
        | false =>
          wtm_at "sn"
          rename_i p3 H3 D3 hI3 x3 e3
          exact some_ _ _ _ _ _ (.week2 h0 (by decide) h1) hI3 x3 e3
        | true =>
          wtm_at "sn"
          exact none_ _ _ hI2 (Ex.refl _)
theorem ldueY_use {K : PySem.W.Frag} {tl pp : Addr} {n wk way : Int} {v0 v1 v2 : V} {R : Cells} {D H : Hp} {Q : VK} {E : XK} (hI : HI H R D) (et : D tl = some (.lst [.int wk])) (mp : PAt R D pp [v0, v1, v2]) (m0 : Mt K R D v0) (m1 : Mt K R D v1) (m2 : Mt K R D v2) (w0 : 0 ≤ way) (w5 : way ≤ 5)
  (a : ∀ w u t H' D', Due n wk way v0 v1 v2 w u → HI H' R D' → Ex D D' → D' t = some (.tup [.str w, u]) → Q (.ref t) H') (b : ∀ H' D', HI H' R D' → Ex D D' → Q .non H') : spLDueY K [.int n, .ref tl, .int way, .ref pp] H Q E := ⟨tl, pp, n, wk, way, v0, v1, v2, R, D, rfl, hI, et, mp, m0, m1, m2, w0, w5, a, b⟩
/-- the class of the word -/
structure OutsW (K : PySem.W.Frag) (E : XK) (w : Str) (u : V) (R : Cells) (D : Hp) : Prop where
  wk : w = "week" → Outs E (He.ga K "NoWeek") u R D
  nu : w = "number" → Outs E (He.ga K "NoNumber") u R D
  th : w = "there" → Outs E (He.ga K "NotThere") u R D
/-- the year with one week told -/
structure YrO (K : PySem.W.Frag) (D : Hp) (a nl td : Addr) (ns : List (Int × Int)) (kvs : List (Key × V)) (m : Int → Option (Int × Int)) (wk : Int) : Prop where
  iy : IsYr K D a nl td ns
  t : Told D kvs m ns.length
  o : ∀ k, m k ≠ none → k = wk
  y : m wk ≠ none
theorem YrO.mono {K : PySem.W.Frag} {D D' : Hp} {a nl td : Addr} {ns : List (Int × Int)} {kvs : List (Key × V)} {m : Int → Option (Int × Int)} {wk : Int} (h : YrO K D a nl td ns kvs m wk) (x : Ex D D') : YrO K D' a nl td ns kvs m wk := ⟨h.iy.mono x, h.t.mono x, h.o, h.y⟩
def spLCall (K : PySem.W.Frag) : Sp := fun vs H Q E => ∃ (a nl td pp : Addr) (ns : List (Int × Int)) (kvs : List (Key × V)) (m : Int → Option (Int × Int)) (wk way : Int) (v0 v1 v2 : V) (w : Str) (u : V) (R : Cells) (D : Hp), vs = [.ref a, .int way, .ref pp] ∧ HI H ((td, .dK kvs) :: R) D ∧ YrO K D a nl td ns kvs m wk ∧
  PAt ((td, .dK kvs) :: R) D pp [v0, v1, v2] ∧ Mt K ((td, .dK kvs) :: R) D v0 ∧ Mt K ((td, .dK kvs) :: R) D v1 ∧ Mt K ((td, .dK kvs) :: R) D v2 ∧ 0 ≤ way ∧ way ≤ 5 ∧ Due ns.length wk way v0 v1 v2 w u ∧ OutsW K E w u ((td, .dK kvs) :: R) D
set_option maxHeartbeats 1000000 in
theorem ok_l_call {P : Program} {w : World} {K : PySem.W.Frag} {mg : Str → Option Value} {base : Heap} (T : Tx K mg) : FnG P w K mg base 6 (a_l_call K) ["year", "way", "things"] (spLCall K) := by
  refine T.f_l_call.ok sc_l_call (fun vs H Q E h => ?_) (fun cdv A outer s H vs Q E hgu hr h => ⟨_, (pss_cons (ps_if (pt_cmpR (op_eqU hr.units) (pv 1) pe_int (nomark _)) (pss_one (ps_ret (ge_methN (pv 0) T.cl_Year T.m_Year_tell (ok_Year_tell T) hgu (hr.mono (by decide)) T.kb_Year_tell_4 (fun _ => pass_takes (takes_of rfl rfl rfl rfl)) (pa_cons (pe_ix ix_U (pv 2) pe_int (fun _ _ => rfl)) (pa_cons (pe_ix ix_U (pv 2) pe_int (fun _ _ => rfl)) (pa_cons (pe_ix ix_U (pv 2) pe_int (fun _ _ => rfl)) pa_nil))) pk_nil))) pss_nil)
 (pss_cons (ps_if (pt_cmpR (op_eqU hr.units) (pv 1) pe_int (nomark _)) (pss_one (ps_ret (ge_meth (pv 0) T.cl_Year T.m_Year_back (ok_Year_back T) hgu (hr.mono (by decide)) T.b_Year_back .nil (fun _ => pass_takes (takes_of rfl rfl rfl rfl)) (pa_cons (pe_ix ix_U (pv 2) pe_int (fun _ _ => rfl)) pa_nil)))) pss_nil)
 (pss_cons (ps_if (pt_cmpR (op_eqU hr.units) (pv 1) pe_int (nomark _)) (pss_one (ps_ret (ge_meth (pv 0) T.cl_Year T.m_Year_warmth (ok_Year_warmth T) hgu (hr.mono (by decide)) T.b_Year_warmth .nil (fun _ => pass_takes (takes_of rfl rfl rfl rfl)) (pa_cons (pe_ix ix_U (pv 2) pe_int (fun _ _ => rfl)) pa_nil)))) pss_nil)
 (pss_cons (ps_if (pt_cmpR (op_eqU hr.units) (pv 1) pe_int (nomark _)) (pss_one (ps_ret (ge_meth (pv 0) T.cl_Year T.m_Year_cold (ok_Year_cold T) hgu (hr.mono (by decide)) T.b_Year_cold .nil (fun _ => pass_takes (takes_of rfl rfl rfl rfl)) (pa_cons (pe_ix ix_U (pv 2) pe_int (fun _ _ => rfl)) pa_nil)))) pss_nil)
 (pss_cons (ps_if (pt_cmpR (op_eqU hr.units) (pv 1) pe_int (nomark _)) (pss_one (ps_ret (ge_meth (pv 0) T.cl_Year T.m_Year_warm_sum (ok_Year_warm_sum T) hgu (hr.mono (by decide)) T.b_Year_warm_sum .nil (fun _ => pass_takes (takes_of rfl rfl rfl rfl)) (pa_cons (pe_ix ix_U (pv 2) pe_int (fun _ _ => rfl)) (pa_cons (pe_ix ix_U (pv 2) pe_int (fun _ _ => rfl)) pa_nil))))) pss_nil)
 (pss_one (ps_ret (ge_meth (pv 0) T.cl_Year T.m_Year_coldest (ok_Year_coldest T) hgu (hr.mono (by decide)) T.b_Year_coldest .nil (fun _ => pass_takes (takes_of rfl rfl rfl rfl)) (pa_cons (pe_ix ix_U (pv 2) pe_int (fun _ _ => rfl)) (pa_cons (pe_ix ix_U (pv 2) pe_int (fun _ _ => rfl)) pa_nil)))))))))), ?_⟩)
  · obtain ⟨a, nl, td, pp, ns, kvs, m, wk, way, v0, v1, v2, w, u, R, D, rfl, _⟩ := h
    rfl
  · obtain ⟨a, nl, td, pp, ns, kvs, m, wk, way, v0, v1, v2, w, u, R, D, rfl, hI, yo, mp, m0, m1, m2, w0, w5, du, ow⟩ := h
    have ep := mp.h hI
    have yr := yo.iy.at (List.mem_cons_self (a := (td, HO.dK kvs)) (l := R)) yo.t
    obtain ⟨⟨dx, ea⟩, _, l0, l1, wo⟩ := id yo.iy
    wtm_at "go"
    have hway : way = 0 ∨ way = 1 ∨ way = 2 ∨ way = 3 ∨ way = 4 ∨ way = 5 := by omega
    rcases hway with rfl | rfl | rfl | rfl | rfl | rfl
    · wtm_at "sn"
      refine ⟨a, nl, td, ns, kvs, m, v0, v1, v2, R, D, rfl, hI, yo.iy, yo.t, m0, m1, m2, fun k wi ci e1 e2 e3 k0 k1 a0 a1 cb => ?_, fun h => ?_, fun h h2 => ?_, fun h h2 h3 h4 => ?_⟩
      · exfalso
        subst e1; subst e2; subst e3
        have g0 := whole_ok k0 k1
        have g1 := whole_ok a0 a1
        cases du with
        | week a => rw [g0] at a; cases a
        | num1 a w b => rw [g1] at b; cases b
        | num2 a w b nn c =>
          cases ci with
          | none => exact nn rfl
          | some x =>
            obtain ⟨c0, c1⟩ := cb x rfl
            rw [show (oV (some x)) = V.int x from rfl, whole_ok c0 c1] at c
            cases c
        | there a w e ne => omega
        | week2 a w b => omega
      · cases du with
        | week a => exact ow.wk rfl
        | num1 a w b => rw [a] at h; cases h
        | num2 a w b nn c => rw [a] at h; cases h
        | there a w e ne => omega
        | week2 a w b => omega
      · cases du with
        | week a => rw [a] at h; cases h
        | num1 a w b => exact ow.nu rfl
        | num2 a w b nn c => rw [b] at h2; cases h2
        | there a w e ne => omega
        | week2 a w b => omega
      · cases du with
        | week a => rw [a] at h; cases h
        | num1 a w b => rw [b] at h2; cases h2
        | num2 a w b nn c => exact ow.nu rfl
        | there a w e ne => omega
        | week2 a w b => omega
    · wtm_at "sn"
      refine backB_use hI yo.iy (List.mem_cons_self ..) yo.t m0 (fun h => ?_) (fun h => ?_)
      · cases du with
        | week a => exact ow.wk rfl
        | num1 a w b => omega
        | num2 a w b nn c => omega
        | there a w e ne => rw [a] at h; cases h
        | week2 a w b => omega
      · cases du with
        | week a => rw [a] at h; cases h
        | num1 a w b => omega
        | num2 a w b nn c => omega
        | @there k a w e ne =>
          refine ⟨k, e, ?_, ow.th rfl⟩
          cases em : m k with
          | none => rfl
          | some p => exact absurd (yo.o k (by rw [em]; exact fun z => by cases z)) ne
        | week2 a w b => omega
    · wtm_at "sn"
      refine ⟨a, v0, _, _, _, D, rfl, hI, yr, m0, fun k e k0 k1 => ?_, fun h => ?_⟩
      · exfalso
        subst e
        cases du with
        | week a => rw [whole_ok k0 k1] at a; cases a
        | num1 a w b => omega
        | num2 a w b nn c => omega
        | there a w e ne => omega
        | week2 a w b => omega
      · cases du with
        | week a => exact ow.wk rfl
        | num1 a w b => omega
        | num2 a w b nn c => omega
        | there a w e ne => omega
        | week2 a w b => omega
    · wtm_at "sn"
      refine ⟨a, v0, _, _, _, D, rfl, hI, yr, m0, fun k e k0 k1 => ?_, fun h => ?_⟩
      · exfalso
        subst e
        cases du with
        | week a => rw [whole_ok k0 k1] at a; cases a
        | num1 a w b => omega
        | num2 a w b nn c => omega
        | there a w e ne => omega
        | week2 a w b => omega
      · cases du with
        | week a => exact ow.wk rfl
        | num1 a w b => omega
        | num2 a w b nn c => omega
        | there a w e ne => omega
        | week2 a w b => omega
    · wtm_at "sn"
      refine ⟨a, v0, v1, _, _, _, D, rfl, hI, yr, m0, m1, fun i j e1 e2 i0 i1 j0 j1 => ?_, fun h => ?_, fun h h2 => ?_⟩
      · exfalso
        subst e1; subst e2
        cases du with
        | week a => rw [whole_ok i0 i1] at a; cases a
        | num1 a w b => omega
        | num2 a w b nn c => omega
        | there a w e ne => omega
        | week2 a w b => rw [whole_ok j0 j1] at b; cases b
      · cases du with
        | week a => exact ow.wk rfl
        | num1 a w b => omega
        | num2 a w b nn c => omega
        | there a w e ne => omega
        | week2 a w b => rw [a] at h; cases h
      · cases du with
        | week a => rw [a] at h; cases h
        | num1 a w b => omega
        | num2 a w b nn c => omega
        | there a w e ne => omega
        | week2 a w b => exact ow.wk rfl
    · wtm_at "sn"
      refine ⟨a, v0, v1, _, _, _, D, rfl, hI, yr, m0, m1, fun i j e1 e2 i0 i1 j0 j1 => ?_, fun h => ?_, fun h h2 => ?_⟩
      · exfalso
        subst e1; subst e2
        cases du with
        | week a => rw [whole_ok i0 i1] at a; cases a
        | num1 a w b => omega
        | num2 a w b nn c => omega
        | there a w e ne => omega
        | week2 a w b => rw [whole_ok j0 j1] at b; cases b
      · cases du with
        | week a => exact ow.wk rfl
        | num1 a w b => omega
        | num2 a w b nn c => omega
        | there a w e ne => omega
        | week2 a w b => rw [a] at h; cases h
      · cases du with
        | week a => rw [a] at h; cases h
        | num1 a w b => omega
        | num2 a w b nn c => omega
        | there a w e ne => omega
        | week2 a w b => exact ow.wk rfl
theorem lcall_use {K : PySem.W.Frag} {a nl td pp : Addr} {ns : List (Int × Int)} {kvs : List (Key × V)} {m : Int → Option (Int × Int)} {wk way : Int} {v0 v1 v2 : V} {w : Str} {u : V} {R : Cells} {D H : Hp} {Q : VK} {E : XK} (hI : HI H ((td, .dK kvs) :: R) D) (yo : YrO K D a nl td ns kvs m wk) (mp : PAt ((td, .dK kvs) :: R) D pp [v0, v1, v2]) (m0 : Mt K ((td, .dK kvs) :: R) D v0) (m1 : Mt K ((td, .dK kvs) :: R) D v1) (m2 : Mt K ((td, .dK kvs) :: R) D v2) (w0 : 0 ≤ way) (w5 : way ≤ 5) (du : Due ns.length wk way v0 v1 v2 w u) (ow : OutsW K E w u ((td, .dK kvs) :: R) D) : spLCall K [.ref a, .int way, .ref pp] H Q E :=
  ⟨a, nl, td, pp, ns, kvs, m, wk, way, v0, v1, v2, w, u, R, D, rfl, hI, yo, mp, m0, m1, m2, w0, w5, du, ow⟩
def spLFoundY (K : PySem.W.Frag) : Sp := fun vs H Q _ => ∃ (a nl td pp : Addr) (ns : List (Int × Int)) (kvs : List (Key × V)) (m : Int → Option (Int × Int)) (wk way : Int) (v0 v1 v2 : V) (w : Str) (u : V) (R : Cells) (D : Hp), vs = [.ref a, .int way, .ref pp] ∧ HI H ((td, .dK kvs) :: R) D ∧ YrO K D a nl td ns kvs m wk ∧
  PAt ((td, .dK kvs) :: R) D pp [v0, v1, v2] ∧ Mt K ((td, .dK kvs) :: R) D v0 ∧ Mt K ((td, .dK kvs) :: R) D v1 ∧ Mt K ((td, .dK kvs) :: R) D v2 ∧ 0 ≤ way ∧ way ≤ 5 ∧ Due ns.length wk way v0 v1 v2 w u ∧
  ∀ t H' D', HI H' ((td, .dK kvs) :: R) D' → Ex D D' → D' t = some (.tup [.str w, u]) → Q (.ref t) H'
set_option maxHeartbeats 1000000 in
theorem ok_l_found {P : Program} {w : World} {K : PySem.W.Frag} {mg : Str → Option Value} {base : Heap} (T : Tx K mg) : FnG P w K mg base 7 (a_l_found K) ["year", "way", "things"] (spLFoundY K) := by
  refine T.f_l_found.ok sc_l_found (fun vs H Q E h => ?_) (fun cdv A outer s H vs Q E hgu hr h => ⟨_, (pss_cons (ps_set (i := 3) sc_l_found.nd rfl (Or.inl rfl) (pe_tup (pa_cons pe_str (pa_cons pe_non pa_nil))))
 (pss_cons (ps_try_A rfl rfl sc_l_found.nd (takes_of rfl rfl rfl rfl) (fun W pn xe tk po => (pss_one (ps_expr (ge_call (ok_l_call T) hgu (hr.mono (by decide)) rfl T.g_l_call T.k_l_call T.b_l_call .nil (fun _ => pass_takes tk) (pa_cons (pv 0) (pa_cons (pv 1) (pa_cons (pv 2) pa_nil))))))) (HdsA.asn (i := 4) rfl rfl ⟨rfl, by decide, .inl T.g_NoWeek⟩ (fun a oe cls d pn hz hf => (pss_one (ps_set (i := 3) sc_l_found.nd rfl (Or.inl rfl) (pe_tup (pa_cons pe_str (pa_cons (pe_byX hz hf (pv 4)) pa_nil)))))) (HdsA.asn (i := 4) rfl rfl ⟨rfl, by decide, .inl T.g_NoNumber⟩ (fun a oe cls d pn hz hf => (pss_one (ps_set (i := 3) sc_l_found.nd rfl (Or.inl rfl) (pe_tup (pa_cons pe_str (pa_cons (pe_byX hz hf (pv 4)) pa_nil)))))) (HdsA.asn (i := 4) rfl rfl ⟨rfl, by decide, .inl T.g_NotThere⟩ (fun a oe cls d pn hz hf => (pss_one (ps_set (i := 3) sc_l_found.nd rfl (Or.inl rfl) (pe_tup (pa_cons pe_str (pa_cons (pe_byX hz hf (pv 4)) pa_nil)))))) HdsA.never))))
 (pss_one (ps_ret (pv 3))))), ?_⟩)
  · obtain ⟨a, nl, td, pp, ns, kvs, m, wk, way, v0, v1, v2, w, u, R, D, rfl, _⟩ := h
    rfl
  · obtain ⟨a, nl, td, pp, ns, kvs, m, wk, way, v0, v1, v2, w, u, R, D, rfl, hI, yo, mp, m0, m1, m2, w0, w5, du, go⟩ := h
    wtm_at "go"
    wtm_at "sn"
    rename_i tp0 H1 D1 hI1 x1 e1
    refine lcall_use hI1 (yo.mono x1) (mp.elim .inl (fun e => .inr (x1 _ _ e))) (m0.mono x1) (m1.mono x1) (m2.mono x1) w0 w5 du ⟨fun ew d H2 D2 hI2 x2 ed => ?_, fun ew d H2 D2 hI2 x2 ed => ?_, fun ew d H2 D2 hI2 x2 ed => ?_⟩
    · refine as_yes T.ex_NoWeek_NoWeek (fun a ha => ?_)
      unfold gone
      wtm_at "sn"
      refine by_mk T.x_NoWeek.E T.x_NoWeek.no (hI2.dat ed) ?_
      wtm_at "sn"
      rename_i p2 H3 D3 hI3 x3 e3
      exact go _ _ _ hI3 (x1.trans (x2.trans x3)) (by rw [ew]; exact e3)
    · refine as_no T.ex_NoNumber_NoWeek ?_
      refine as_yes T.ex_NoNumber_NoNumber (fun a ha => ?_)
      unfold gone
      wtm_at "sn"
      refine by_mk T.x_NoNumber.E T.x_NoNumber.no (hI2.dat ed) ?_
      wtm_at "sn"
      rename_i p2 H3 D3 hI3 x3 e3
      exact go _ _ _ hI3 (x1.trans (x2.trans x3)) (by rw [ew]; exact e3)
    · refine as_no T.ex_NotThere_NoWeek ?_
      refine as_no T.ex_NotThere_NoNumber ?_
      refine as_yes T.ex_NotThere_NotThere (fun a ha => ?_)
      unfold gone
      wtm_at "sn"
      refine by_mk T.x_NotThere.E T.x_NotThere.no (hI2.dat ed) ?_
      wtm_at "sn"
      rename_i p2 H3 D3 hI3 x3 e3
      exact go _ _ _ hI3 (x1.trans (x2.trans x3)) (by rw [ew]; exact e3)
theorem lfoundY_use {K : PySem.W.Frag} {a nl td pp : Addr} {ns : List (Int × Int)} {kvs : List (Key × V)} {m : Int → Option (Int × Int)} {wk way : Int} {v0 v1 v2 : V} {w : Str} {u : V} {R : Cells} {D H : Hp} {Q : VK} {E : XK} (hI : HI H ((td, .dK kvs) :: R) D) (yo : YrO K D a nl td ns kvs m wk) (mp : PAt ((td, .dK kvs) :: R) D pp [v0, v1, v2]) (m0 : Mt K ((td, .dK kvs) :: R) D v0) (m1 : Mt K ((td, .dK kvs) :: R) D v1) (m2 : Mt K ((td, .dK kvs) :: R) D v2) (w0 : 0 ≤ way) (w5 : way ≤ 5) (du : Due ns.length wk way v0 v1 v2 w u)
  (go : ∀ t H' D', HI H' ((td, .dK kvs) :: R) D' → Ex D D' → D' t = some (.tup [.str w, u]) → Q (.ref t) H') : spLFoundY K [.ref a, .int way, .ref pp] H Q E := ⟨a, nl, td, pp, ns, kvs, m, wk, way, v0, v1, v2, w, u, R, D, rfl, hI, yo, mp, m0, m1, m2, w0, w5, du, go⟩
theorem Due.ok {n wk way : Int} {v0 v1 v2 u : V} {w : Str} {P : V → Prop} (d : Due n wk way v0 v1 v2 w u) (h0 : P v0) (h1 : P v1) (h2 : P v2) : Sg w ∧ w.length ≤ 60 ∧ P u := by
  cases d
  · exact ⟨sg_of rfl, by decide, h0⟩
  · exact ⟨sg_of rfl, by decide, h1⟩
  · exact ⟨sg_of rfl, by decide, h2⟩
  · exact ⟨sg_of rfl, by decide, h0⟩
  · exact ⟨sg_of rfl, by decide, h1⟩
def keptD (ns : List (Int × Int)) (m : Int → Option (Int × Int)) : PyData := .list [.list ((wksOf (stand ns m) ns.length).map pD), toldD (ksOf m ns.length) m]
theorem sm_keptD {K : PySem.W.Frag} {R : Cells} {D : Hp} {y : Addr} {kvs : List (Key × V)} {ns : List (Int × Int)} {m : Int → Option (Int × Int)} (yr : YrAt K R D y (stand ns m) ns.length) (t : Told D kvs m ns.length) : Sm (keptD ns m) 100000 3 := by
  obtain ⟨n1, n52⟩ := yr.nn
  have s1 : Sm (.list ((wksOf (stand ns m) ns.length).map pD)) 20000 2 := (sm_pairs (fun q hq => by
    unfold wksOf at hq
    obtain ⟨j, hj, rfl⟩ := List.mem_map.mp hq
    have := List.mem_range.mp hj
    exact yr.ok (by omega) (by omega)) (by rw [wksOf_len]; omega)).mono (by omega) (Nat.le_refl _)
  have s2 : Sm (toldD (ksOf m ns.length) m) 20000 2 := sm_told t (ksOf_mem t) (by omega) (by
    unfold ksOf
    refine Nat.le_trans (List.length_filter_le _ _) ?_
    rw [List.length_map, List.length_range]
    omega)
  refine (Sm.list (n := 20000) (k := 2) (all_c s1 (all_c s2 all_n))).mono ?_ (Nat.le_refl _)
  show 20000 * 2 + 2 * 2 + 3 ≤ 100000
  omega
theorem HI.mvA {H D : Hp} {LN OC R : Cells} {b d : Addr × HO} (h : HI H (b :: (LN ++ d :: (OC ++ R))) D) : HI H (d :: b :: ((LN ++ OC) ++ R)) D := by
  refine h.perm ?_
  rw [List.append_assoc]
  exact (List.Perm.cons b List.perm_middle).trans (List.Perm.swap d b _)
theorem HI.mvB {H D : Hp} {OC R : Cells} {p b d : Addr × HO} (h : HI H (p :: b :: (OC ++ d :: R)) D) : HI H (p :: (OC ++ d :: b :: R)) D := by
  refine h.perm (List.Perm.cons p ?_)
  exact (List.perm_middle (a := b) (l₁ := OC) (l₂ := d :: R)).symm.trans (List.Perm.append_left OC (List.Perm.swap d b R))
theorem keptRep {D13 D14 D15 : Hp} {n : Int} {pW pT pL : Addr} {xsW : List V} {kvs : List (Key × V)} {ns : List (Int × Int)} {m : Int → Option (Int × Int)} (eL : D15 pL = some (.lst [.ref pW, .ref pT])) (eW : D13 pW = some (.lst xsW)) (pl : PairsL D13 xsW (wksOf (stand ns m) ns.length)) (eT : D14 pT = some (.dK kvs)) (t : Told D14 kvs m n) (ek : kvs.map (·.1) = (ksOf m ns.length).map Sum.inl) (nd : (ksOf m ns.length).Nodup) (x14 : Ex D13 D14) (x15 : Ex D14 D15) : Rep D15 (.ref pL) (keptD ns m) :=
  .lst eL (.cons (.lst ((x14.trans x15) _ _ eW) (rep_pairs (pl.mono (x14.trans x15)))) (.cons ((t.mono x15).repD (x15 _ _ eT) ek nd) .nil))
def spRefused (K : PySem.W.Frag) : Sp := fun vs H Q _ => ∃ (b a nl td tl : Addr) (ns : List (Int × Int)) (kvs : List (Key × V)) (m : Int → Option (Int × Int)) (wk : Int) (R : Cells) (D : Hp) (x y z : Int) (n : Nat), vs = [.ref b, .ref a, .int ns.length, .ref tl] ∧ HI H ((b, bx x y z) :: (td, .dK kvs) :: R) D ∧ BoxOk n x y z ∧ n + 200 < 1000000 ∧ YrO K D a nl td ns kvs m wk ∧ D tl = some (.lst [.int wk]) ∧
  ∀ x' y' z' n' H' D', HI H' ((b, bx x' y' z') :: (td, .dK kvs) :: R) D' → Ex D D' → BoxOk n' x' y' z' → n' ≤ n + 40 → Q (.bl true) H'
set_option maxHeartbeats 4000000 in
theorem ok_l_refused_right {P : Program} {w : World} {K : PySem.W.Frag} {mg : Str → Option Value} {base : Heap} (T : Tx K mg) : FnG P w K mg base 8 (a_l_refused_right K) ["box", "year", "many", "told"] (spRefused K) := by
  refine T.f_l_refused_right.ok sc_l_refused_right (fun vs H Q E h => ?_) (fun cdv A outer s H vs Q E hgu hr h => ⟨_, (pss_cons (ps_set (i := 4) sc_l_refused_right.nd rfl (Or.inl rfl) (ge_call (ok_l_take T) hgu (hr.mono (by decide)) rfl T.g_l_take T.k_l_take T.b_l_take .nil (fun _ => pass_takes (takes_of rfl rfl rfl rfl)) (pa_cons (pv 0) (pa_cons pe_int pa_nil))))
 (pss_cons (ps_set (i := 5) sc_l_refused_right.nd rfl (Or.inl rfl) (pe_ix ix_U (pe_lst (pa_cons (ge_call (ok_l_number T) hgu (hr.mono (by decide)) rfl T.g_l_number T.k_l_number T.b_l_number .nil (fun _ => pass_takes (takes_of rfl rfl rfl rfl)) (pa_cons (pv 0) (pa_cons pe_int (pa_cons (pv 2) pa_nil)))) (pa_cons (pe_op op_addU pe_int (ge_call (ok_l_take T) hgu (hr.mono (by decide)) rfl T.g_l_take T.k_l_take T.b_l_take .nil (fun _ => pass_takes (takes_of rfl rfl rfl rfl)) (pa_cons (pv 0) (pa_cons (pv 2) pa_nil)))) pa_nil))) (ge_call (ok_l_take T) hgu (hr.mono (by decide)) rfl T.g_l_take T.k_l_take T.b_l_take .nil (fun _ => pass_takes (takes_of rfl rfl rfl rfl)) (pa_cons (pv 0) (pa_cons pe_int pa_nil))) (fun _ _ => rfl)))
 (pss_cons (ps_set (i := 6) sc_l_refused_right.nd rfl (Or.inl rfl) (pe_lstM (pa_cons (pv 5) (pa_cons (ge_call (ok_l_number T) hgu (hr.mono (by decide)) rfl T.g_l_number T.k_l_number T.b_l_number .nil (fun _ => pass_takes (takes_of rfl rfl rfl rfl)) (pa_cons (pv 0) (pa_cons pe_int (pa_cons pe_int pa_nil)))) (pa_cons (ge_call (ok_l_number T) hgu (hr.mono (by decide)) rfl T.g_l_number T.k_l_number T.b_l_number .nil (fun _ => pass_takes (takes_of rfl rfl rfl rfl)) (pa_cons (pv 0) (pa_cons (pe_un un_neg pe_int) (pa_cons pe_int pa_nil)))) pa_nil)))))
 (pss_cons (ps_ifJ (pt_cmpR op_gt (pv 4) pe_int (nomark _)) (pss_one (ps_asg (ge_call (ok_l_number T) hgu (hr.mono (by decide)) rfl T.g_l_number T.k_l_number T.b_l_number .nil (fun _ => pass_takes (takes_of rfl rfl rfl rfl)) (pa_cons (pv 0) (pa_cons pe_int (pa_cons (pv 2) pa_nil)))) (pg_sub (pv 6) pe_int set_list))) pss_nil)
 (pss_cons (ps_set (i := 7) sc_l_refused_right.nd rfl (Or.inl rfl) (ge_call (ok_l_due T) hgu (hr.mono (by decide)) rfl T.g_l_due T.k_l_due T.b_l_due .nil (fun _ => pass_takes (takes_of rfl rfl rfl rfl)) (pa_cons (pv 2) (pa_cons (pv 3) (pa_cons (pv 4) (pa_cons (pv 6) pa_nil))))))
 (pss_cons (ps_if (pt_cmpR op_isU (pv 7) pe_non (nomark _)) (pss_one (ps_ret pe_bl)) pss_nil)
 (pss_cons (ps_set (i := 8) sc_l_refused_right.nd rfl (Or.inl rfl) (pe_callB (show CallR _ (.builtin "repr") (RShw K) from call_reprS hgu hr T.sys) (by rfl) T.n_repr boot_repr (pa_cons (pe_lst (pa_cons (ge_meth0 (pv 1) T.cl_Year T.m_Year_weeks (ok_Year_weeks T) hgu (hr.mono (by decide)) T.b_Year_weeks .nil (fun _ => pass_takes (takes_of rfl rfl rfl rfl))) (pa_cons (ge_meth0 (pv 1) T.cl_Year T.m_Year_told (ok_Year_told T) hgu (hr.mono (by decide)) T.b_Year_told .nil (fun _ => pass_takes (takes_of rfl rfl rfl rfl))) pa_nil))) pa_nil)))
 (pss_cons (ps_set (i := 9) sc_l_refused_right.nd rfl (Or.inl rfl) (ge_call (ok_l_found T) hgu (hr.mono (by decide)) rfl T.g_l_found T.k_l_found T.b_l_found .nil (fun _ => pass_takes (takes_of rfl rfl rfl rfl)) (pa_cons (pv 1) (pa_cons (pv 4) (pa_cons (pv 6) pa_nil)))))
 (pss_cons (ps_if (PW.pt (pw_or (pt_cmpR (op_neU hr.units) (pe_callB (show CallR _ (.builtin "repr") (RShw K) from call_reprS hgu hr T.sys) (by rfl) T.n_repr boot_repr (pa_cons (pv 9) pa_nil)) (pe_callB (show CallR _ (.builtin "repr") (RShw K) from call_reprS hgu hr T.sys) (by rfl) T.n_repr boot_repr (pa_cons (pv 7) pa_nil)) (nomark _)) (pw_or1 (pt_cmpR (op_neU hr.units) (pe_callB (show CallR _ (.builtin "repr") (RShw K) from call_reprS hgu hr T.sys) (by rfl) T.n_repr boot_repr (pa_cons (pe_lst (pa_cons (ge_meth0 (pv 1) T.cl_Year T.m_Year_weeks (ok_Year_weeks T) hgu (hr.mono (by decide)) T.b_Year_weeks .nil (fun _ => pass_takes (takes_of rfl rfl rfl rfl))) (pa_cons (ge_meth0 (pv 1) T.cl_Year T.m_Year_told (ok_Year_told T) hgu (hr.mono (by decide)) T.b_Year_told .nil (fun _ => pass_takes (takes_of rfl rfl rfl rfl))) pa_nil))) pa_nil)) (pv 8) (nomark _))))) (pss_one (ps_ret pe_bl)) pss_nil)
 (pss_cons (ps_for (passes_of rfl) rfl (pi_list (pv 6)) (pg_name (i := 10) sc_l_refused_right.nd rfl (Or.inl rfl)) (pss_cons (ps_if (pt_val (pe_callB (show CallR _ (.builtin "isinstance") (RIsi K) from call_isiU) (by rfl) T.n_isinstance boot_isinstance (pa_cons (pv 10) (pa_cons (pe_bltn (v := .ty "list") (by rfl) T.n_list boot_list rfl) pa_nil)))) (pss_one (ps_expr (pe_bm PySem.F.plainAttrs_list PySem.F.slot_list_append PySem.F.type_list_append mt_append (pv 10) (pa_cons pe_str pa_nil)))) pss_nil)
 (pss_one (ps_if (pt_val (pe_callB (show CallR _ (.builtin "isinstance") (RIsi K) from call_isiU) (by rfl) T.n_isinstance boot_isinstance (pa_cons (pv 10) (pa_cons (pe_bltn (v := .ty "dict") (by rfl) T.n_dict boot_dict rfl) pa_nil)))) (pss_one (ps_dput (by exact hu1 hr) (pv 10) pe_str pe_int rfl)) pss_nil))))
 (pss_one (ps_ret (pe_cmpR (op_eqU hr.units) (pe_callB (show CallR _ (.builtin "repr") (RShw K) from call_reprS hgu hr T.sys) (by rfl) T.n_repr boot_repr (pa_cons (pv 9) pa_nil)) (pe_callB (show CallR _ (.builtin "repr") (RShw K) from call_reprS hgu hr T.sys) (by rfl) T.n_repr boot_repr (pa_cons (pv 7) pa_nil)) (nomark _)))))))))))))), ?_⟩)
  · obtain ⟨b, a, nl, td, tl, ns, kvs, m, wk, R, D, x, y, z, n, rfl, _⟩ := h
    rfl
  · obtain ⟨b, a, nl, td, tl, ns, kvs, m, wk, R, D, x, y, z, n, rfl, hI, hb, hn, yo, et, go⟩ := h
    obtain ⟨⟨dx, ea⟩, _, l0, l1, wo⟩ := id yo.iy
    wtm_at "go"
    wtm_at "sn"
    rename_i way x1 y1 z1 H1 hI1 bo1 w0 w5
    refine lnumber_use hI1 bo1 (by omega) (by omega) (by omega) (by omega) (by omega) (fun va LA x2 y2 z2 n2 H2 D2 hI2 xx2 bo2 hn2 okA oda => ?_)
    wtm_at "sn"
    rename_i wr x3 y3 z3 H3 hI3 bo3 wr0 wr1 pw H4 D4 hI4 xx4 ew r5 x5 y5 z5 H5 hI5 bo5 r50 r51
    refine RIx.pick (P := Odt K AnyT (LA.map (·.1)) D4) (hI5.dat ew) (all_c (oda.mono xx4) (all_c (.of_int (Nat.lt_of_le_of_lt (by omega : (1 + wr).natAbs ≤ 1000) (by decide)) trivial) all_n)) r50 r51 (fun v0 od0 => ?_)
    wtm_at "sn"
    refine lnumber_use hI5 bo5 (by omega) (by omega) (by omega) (by omega) (by omega) (fun v1 LB x6 y6 z6 n6 H6 D6 hI6 xx6 bo6 hn6 okB odb => ?_)
    wtm_at "sn"
    refine lnumber_use hI6 bo6 (by omega) (by omega) (by omega) (by omega) (by omega) (fun v2 LC x7 y7 z7 n7 H7 D7 hI7 xx7 bo7 hn7 okC odc => ?_)
    wtm_at "sn"
    rename_i pp H8 hI8
    have x47 : Ex D4 D7 := xx6.trans xx7
    have e0 : LC ++ (LB ++ (LA ++ (td, HO.dK kvs) :: R)) = (LC ++ (LB ++ LA)) ++ (td, HO.dK kvs) :: R := by simp
    rw [e0] at hI8
    have okO : ∀ c ∈ LC ++ (LB ++ LA), OkO 1 c.2 := fun c hc => by
      rcases List.mem_append.mp hc with h | h
      · exact okC c h
      · rcases List.mem_append.mp h with h | h
        · exact okB c h
        · exact okA c h
    have o0 : Odt K AnyT ((LC ++ (LB ++ LA)).map (·.1)) D7 v0 := (od0.mono x47).sub fun a ha => by simp only [List.map_append, List.mem_append]; exact .inr (.inr ha)
    have o1 : Odt K AnyT ((LC ++ (LB ++ LA)).map (·.1)) D7 v1 := (odb.mono xx7).sub fun a ha => by simp only [List.map_append, List.mem_append]; exact .inr (.inl ha)
    have o2 : Odt K AnyT ((LC ++ (LB ++ LA)).map (·.1)) D7 v2 := odc.sub fun a ha => by simp only [List.map_append, List.mem_append]; exact .inl ha
    have x07 : Ex D D7 := xx2.trans (xx4.trans x47)
    generalize LC ++ (LB ++ LA) = OC0 at *
    clear hI hI1 hI2 hI3 hI4 hI5 hI6 hI7 e0 od0 oda odb odc okA okB okC x47 xx2 xx4 xx6 xx7 ew ea
    refine st_ifJ (fun σ' H' => ∃ (v1' : V) (OC : Cells) (x y z : Int) (n' : Nat) (D' : Hp), σ' = [some (.ref b), some (.ref a), some (.int ns.length), some (.ref tl), some (.int way), some v0, some (.ref pp), none, none, none, none] ∧ HI H' ((pp, .lst [v0, v1', v2]) :: (b, bx x y z) :: (OC ++ (td, .dK kvs) :: R)) D' ∧ Ex D7 D' ∧ BoxOk n' x y z ∧ n' ≤ n + 30 ∧ (∀ c ∈ OC, OkO 1 c.2) ∧ Odt K AnyT (OC.map (·.1)) D' v0 ∧ Odt K AnyT (OC.map (·.1)) D' v1' ∧ Odt K AnyT (OC.map (·.1)) D' v2) (fun σ' H' q => ?_) (fun NN tail => ?_)
    · obtain ⟨v1', OC, x, y, z, n', D', rfl, hI9, x79, bo9, hn9, okO, o0, o1, o2⟩ := q
      dsimp only
      have hI10 := hI9.mvB
      clear hI9 hI8
      have x0D := x07.trans x79
      have yoD := yo.mono x0D
      have etD := x0D _ _ et
      clear x07 x79 yo et
      have sl : ∀ (v : V), OC.Sublist ((pp, HO.lst [v0, v1', v2]) :: (OC ++ (td, HO.dK kvs) :: (b, bx x y z) :: R)) := fun v => (List.sublist_append_left OC _).cons _
      have ss : ∀ c ∈ OC, c ∈ (pp, HO.lst [v0, v1', v2]) :: (OC ++ (td, HO.dK kvs) :: (b, bx x y z) :: R) := fun c hc => (sl v0).subset hc
      have mtd : ((td, HO.dK kvs) : Addr × HO) ∈ (pp, HO.lst [v0, v1', v2]) :: (OC ++ (td, HO.dK kvs) :: (b, bx x y z) :: R) := List.mem_cons_of_mem _ (List.mem_append_right _ (List.mem_cons_self ..))
      have fin : ∀ {OC' : Cells} {H' : Hp} {D2 : Hp}, HI H' ((pp, HO.lst [v0, v1', v2]) :: (OC' ++ (td, HO.dK kvs) :: (b, bx x y z) :: R)) D2 → Ex D' D2 → Q (.bl true) H' := fun h x2 =>
        go _ _ _ _ _ _ (h.sublist ((List.sublist_append_right _ _).cons _)).swap (x0D.trans x2) bo9 (by omega)
      clear x0D
      wtm_at "sn"
      refine ldueY_use hI10 etD (.inl (List.mem_cons_self ..)) (o0.mt okO ss) (o1.mt okO ss) (o2.mt okO ss) w0 (by omega) (fun w u t H11 D11 du hI11 x11 et11 => ?_) (fun H11 D11 hI11 x11 => ?_)
      · have yo11 := yoD.mono x11
        have yr11 := yo11.iy.at mtd yo11.t
        obtain ⟨⟨dx1, ea1⟩, _⟩ := id yo11.iy
        wtm_at "sn"
        refine yweeks_use hI11 yr11 (fun pW xsW H12 D12 hI12 x12 plW => ?_)
        obtain ⟨D13, hI13, x13, e13⟩ := hI12.fr1
        have x1213 := x12.trans x13
        have ea13 := x1213 _ _ ea1
        wtm_at "sn"
        refine ytold_use hI13 (yo11.iy.mono x1213) mtd (yo11.t.mono x1213) (fun pT ks kvs' H14 D14 hI14 x14 eT tT ek hs nd hin => ?_)
        have eks := ksOf_eq yo11.t hs nd hin
        subst eks
        wtm_at "sn"
        rename_i pL H15 D15 hI15 x15 eL
        have kp := sm_keptD yr11 yo11.t
        refine .b (repr_sm (d := keptD ns m) (hI15.rep (keptRep eL e13 (plW.mono x13) eT tT ek nd x14 x15)) kp (by omega) (by omega) ?_)
        wtm_at "sn"
        have x1115 := x1213.trans (x14.trans x15)
        have yo15 := yo11.mono x1115
        have et15 := x1115 _ _ et11
        have x015 := x11.trans x1115
        have hF := HI.front (A := (pp, HO.lst [v0, v1', v2]) :: OC) hI15
        have ssF : ∀ c ∈ OC, c ∈ (td, HO.dK kvs) :: ((pp, HO.lst [v0, v1', v2]) :: OC ++ (b, bx x y z) :: R) := fun c hc => List.mem_cons_of_mem _ (List.mem_append_left _ (List.mem_cons_of_mem _ hc))
        obtain ⟨wsg, wl, odu⟩ := du.ok o0 o1 o2
        refine lfoundY_use hF yo15 (.inl (List.mem_cons_of_mem _ (List.mem_append_left _ (List.mem_cons_self ..)))) ((o0.mono x015).mt okO ssF) ((o1.mono x015).mt okO ssF) ((o2.mono x015).mt okO ssF) w0 (by omega) du (fun t2 H16 D16 hI16 x16 et16 => ?_)
        have hI17 : HI H16 ((pp, HO.lst [v0, v1', v2]) :: (OC ++ (td, HO.dK kvs) :: (b, bx x y z) :: R)) D16 := HI.back (A := (pp, HO.lst [v0, v1', v2]) :: OC) hI16
        have yo16 := yo15.mono x16
        have yr16 := yo16.iy.at mtd yo16.t
        obtain ⟨⟨dx2, ea16⟩, _⟩ := id yo16.iy
        have two : TwoS K AnyT (OC.map (·.1)) D16 t2 t := .inl ⟨w, u, et16, x16 _ _ et15, wsg, wl, odu.mono (x015.trans x16)⟩
        have od16 : ∀ v ∈ [v0, v1', v2], Odt K AnyT (OC.map (·.1)) D16 v := all_c (o0.mono (x015.trans x16)) (all_c (o1.mono (x015.trans x16)) (all_c (o2.mono (x015.trans x16)) all_n))
        obtain ⟨tx, nn, sh1, sh2, tl_, nl_⟩ := two.sh hI17 okO (sl v0) (by omega)
        have fin : ∀ {OC' : Cells} {H' : Hp} {D2 : Hp}, HI H' ((pp, HO.lst [v0, v1', v2]) :: (OC' ++ (td, HO.dK kvs) :: (b, bx x y z) :: R)) D2 → Ex D16 D2 → Q (.bl true) H' := fun h x2 => fin h ((x015.trans x16).trans x2)
        clear hI10 hI11 hI12 hI13 hI14 hI15 hI16 hF x1115 x015 x16 x14 x15 x1213 x12 x13 x11 yo15 et15 eL eT tT e13 plW ea13 hs hin
        wtm_at "sn"
        refine .s (sh1.mono (hI17.uni ss)) (by omega) (by omega) ?_
        wtm_at "sn"
        refine .s (sh2.mono (hI17.uni ss)) (by omega) (by omega) ?_
        wtm_at "sn"
        refine yweeks_use hI17 yr16 (fun pW xsW H12 D12 hI12 x12 plW => ?_)
        obtain ⟨D13, hI13, x13, e13⟩ := hI12.fr1
        have x1213 := x12.trans x13
        have ea13 := x1213 _ _ ea16
        wtm_at "sn"
        refine ytold_use hI13 (yo16.iy.mono x1213) mtd (yo16.t.mono x1213) (fun pT ks kvs' H14 D14 hI14 x14 eT tT ek hs nd hin => ?_)
        have eks := ksOf_eq yo16.t hs nd hin
        subst eks
        wtm_at "sn"
        rename_i pL H15 D15 hI15 x15 eL
        refine .b (repr_sm (d := keptD ns m) (hI15.rep (keptRep eL e13 (plW.mono x13) eT tT ek nd x14 x15)) kp (by omega) (by omega) ?_)
        wtm_at "sn"
        have x1115 := x1213.trans (x14.trans x15)
        have two15 := two.mono x1115
        have od15 : ∀ v ∈ [v0, v1', v2], Odt K AnyT (OC.map (·.1)) D15 v := fun v hv => (od16 v hv).mono x1115
        refine for_cell (a := pp) (xs := [v0, v1', v2]) (fun j σ R' D' => ∃ (c10 : Option V) (OC' : Cells), σ = [some (.ref b), some (.ref a), some (.int ns.length), some (.ref tl), some (.int way), some v0, some (.ref pp), some (.ref t), some (.str (keptD ns m).shown), some (.ref t2), c10] ∧ R' = (pp, .lst [v0, v1', v2]) :: (OC' ++ (td, .dK kvs) :: (b, bx x y z) :: R) ∧ Ex D15 D' ∧ OC'.map (·.1) = OC.map (·.1) ∧ ∀ c ∈ OC', OkO (1 + j) c.2) hI15 ⟨_, OC, rfl, rfl, Ex.refl _, rfl, okO⟩ (fun j σ R' D' q => ?_) (fun j v σ R' D' H' hv hI' q => ?_) (fun σ R' D' H' hI' q => ?_)
        · obtain ⟨c10, OC', rfl, rfl, _⟩ := q
          exact List.mem_cons_self ..
        · obtain ⟨c10, OC', rfl, rfl, xq, eq, okq⟩ := q
          have hj : j < 3 := (List.getElem?_eq_some_iff.mp hv).1
          have od := od15 v (List.mem_of_getElem? hv)
          cases od with
          | @dat v k t kn ty p s z nl nd =>
            wtm_at "sn"
            exact ⟨_, _, hI', _, OC', rfl, rfl, xq, eq, fun c hc => (okq c hc).le (by omega)⟩
          | @cell a hm =>
            rw [← eq] at hm
            obtain ⟨o, ho⟩ := mem_fst hm
            have oko := okq _ ho
            obtain ⟨A, B, rfl⟩ := mem_cut ho
            have hF : HI H' ((a, o) :: ((pp, .lst [v0, v1', v2]) :: (A ++ B ++ (td, .dK kvs) :: (b, bx x y z) :: R))) D' := by
              have h1 : HI H' (((pp, .lst [v0, v1', v2]) :: A) ++ (a, o) :: (B ++ (td, .dK kvs) :: (b, bx x y z) :: R)) D' := by simpa using hI'
              have h2 := h1.front
              simpa using h2
            clear hI'
            have bk : ∀ (u : HO) (H3 : Hp), HI H3 ((a, u) :: ((pp, .lst [v0, v1', v2]) :: (A ++ B ++ (td, .dK kvs) :: (b, bx x y z) :: R))) D' → HI H3 ((pp, .lst [v0, v1', v2]) :: ((A ++ (a, u) :: B) ++ (td, .dK kvs) :: (b, bx x y z) :: R)) D' := fun u H3 h => by
              have h1 : HI H3 ((a, u) :: (((pp, .lst [v0, v1', v2]) :: A) ++ (B ++ (td, .dK kvs) :: (b, bx x y z) :: R))) D' := by simpa using h
              have h2 := h1.back
              simpa using h2
            have eq2 : ∀ u : HO, (A ++ (a, u) :: B).map (·.1) = OC.map (·.1) := fun u => by rw [← eq]; simp
            have okA : ∀ (u : HO), OkO (1 + j + 1) u → ∀ c ∈ A ++ (a, u) :: B, OkO (1 + (j + 1)) c.2 := fun u hu c hc => by
              rcases List.mem_append.mp hc with h | h
              · exact (okq c (List.mem_append_left _ h)).le (by omega)
              · rcases List.mem_cons.mp h with h | h
                · subst h; exact hu
                · exact (okq c (List.mem_append_right _ (List.mem_cons_of_mem _ h))).le (by omega)
            have ea := hF.get (List.mem_cons_self ..)
            cases oko with
            | lst ox ol =>
              wtm_at "sn"
              exact ⟨_, _, bk _ _ (by assumption), _, _, rfl, rfl, xq, eq2 _, okA _ ((OkO.lst ox ol).app (.str (sg_of rfl) (by decide)))⟩
            | dict ox ol =>
              wtm_at "sn"
              exact ⟨_, _, bk _ _ (by assumption), _, _, rfl, rfl, xq, eq2 _, okA _ ((OkO.dict ox ol).put (q := Sum.inr (Str.ofString "more")) ⟨sg_of rfl, by decide⟩ (.int (by decide)))⟩
        · obtain ⟨c10, OC', rfl, rfl, xq, eq, okq⟩ := q
          have sl' : OC'.Sublist ((pp, HO.lst [v0, v1', v2]) :: (OC' ++ (td, .dK kvs) :: (b, bx x y z) :: R)) := (List.sublist_append_left OC' _).cons _
          have two' := two15.mono xq
          rw [← eq] at two'
          obtain ⟨t, n, sh1, sh2, tl, nl⟩ := two'.sh hI' okq sl' (by show 1 + 3 ≤ 20; omega)
          have sx := hI'.uni (OC := OC') fun c hc => sl'.subset hc
          wtm_at "sn"
          refine .s (sh1.mono sx) (by omega) (by omega) ?_
          wtm_at "sn"
          refine .s (sh2.mono sx) (by omega) (by omega) ?_
          wtm_at "sn"
          exact fin hI' (x1115.trans xq)
      · wtm_at "sn"
        exact fin hI11 x11
    · wtm_at "sn"
      refine if_dec (fun h => ?_) (fun h => ?_)
      · wtm_at "sn"
        refine lnumber_use hI8.swap bo7 (by omega) (by omega) (by omega) (by omega) (by omega) (fun v1' LD x8 y8 z8 n8 H9 D9 hI9 xx9 bo9 hn9 okD odd => ?_)
        have hI10 := hI9.mvA
        wtm_at "sn"
        rename_i H11 hI11
        refine tail _ _ ⟨v1', LD ++ OC0, _, _, _, _, D9, rfl, ?_, xx9, bo9, by omega, fun c hc => (List.mem_append.mp hc).elim (okD c) (okO c), (o0.mono xx9).sub fun a ha => by simp only [List.map_append, List.mem_append]; exact .inr ha, odd.sub fun a ha => by simp only [List.map_append, List.mem_append]; exact .inl ha, (o2.mono xx9).sub fun a ha => by simp only [List.map_append, List.mem_append]; exact .inr ha⟩
        simpa using hI11
      · wtm_at "sn"
        exact tail _ _ ⟨v1, OC0, _, _, _, _, D7, rfl, hI8, Ex.refl _, bo7, by omega, okO, o0, o1, o2⟩
theorem lnear_use {K : PySem.W.Frag} {b p : Addr} {xs : List V} {ns : List (Int × Int)} {R : Cells} {D H : Hp} {x y z : Int} {n : Nat} {Q : VK} {E : XK} (hI : HI H ((b, bx x y z) :: R) D) (bo : BoxOk n x y z) (hn : n + 200 < 1000000) (ep : D p = some (.lst xs)) (pl : PairsL D xs ns) (n1 : 1 ≤ ns.length) (n52 : ns.length ≤ 52) (wo : ∀ q ∈ ns, WOk q)
  (q : ∀ v C x' y' z' n' H' D', HI H' (C ++ (b, bx x' y' z') :: R) D' → Ex D D' → BoxOk n' x' y' z' → n' ≤ n + 60 → Near K D' C v → Q v H') : spLNear K [.ref b, .ref p] H Q E := ⟨b, p, xs, ns, R, D, x, y, z, n, rfl, hI, bo, hn, ep, pl, n1, n52, wo, q⟩
theorem refused_use {K : PySem.W.Frag} {b a nl td tl : Addr} {ns : List (Int × Int)} {kvs : List (Key × V)} {m : Int → Option (Int × Int)} {wk : Int} {R : Cells} {D H : Hp} {x y z : Int} {n : Nat} {Q : VK} {E : XK} (hI : HI H ((b, bx x y z) :: (td, .dK kvs) :: R) D) (bo : BoxOk n x y z) (hn : n + 200 < 1000000) (yo : YrO K D a nl td ns kvs m wk) (et : D tl = some (.lst [.int wk]))
  (q : ∀ x' y' z' n' H' D', HI H' ((b, bx x' y' z') :: (td, .dK kvs) :: R) D' → Ex D D' → BoxOk n' x' y' z' → n' ≤ n + 40 → Q (.bl true) H') : spRefused K [.ref b, .ref a, .int ns.length, .ref tl] H Q E := ⟨b, a, nl, td, tl, ns, kvs, m, wk, R, D, x, y, z, n, rfl, hI, bo, hn, yo, et, q⟩
def spLaw : Sp := fun vs H Q _ => ∃ (l : Addr) (o : Obj) (ns : List Int) (R : Cells) (D : Hp), vs = [.ref l] ∧ HI H R D ∧ D l = some (.frz o (.lst (ns.map V.int))) ∧ ∀ H', Q (.bl true) H'
set_option maxHeartbeats 4000000 in
theorem ok_law {P : Program} {w : World} {K : PySem.W.Frag} {mg : Str → Option Value} {base : Heap} (T : Tx K mg) : FnG P w K mg base 9 (a_law K) ["script"] spLaw := by
  refine T.f_law.ok sc_law (fun vs H Q E h => ?_) (fun cdv A outer s H vs Q E hgu hr h => ⟨_, (pss_cons (ps_for (passes_of rfl) rfl (pi_range1 rfl T.n_range (pa_cons (pe_callB (call_maxU rfl) (by rfl) T.n_max boot_max (pa_cons pe_int (pa_cons (pe_callB (call_minU rfl) (by rfl) T.n_min boot_min (pa_cons pe_int (pa_cons (pe_callB (call_lenU) (by rfl) T.n_len boot_len (pa_cons (pv 0) pa_nil)) pa_nil))) pa_nil))) pa_nil)) (pg_name (i := 1) sc_law.nd rfl (Or.inl rfl)) (pss_cons (ps_set (i := 2) sc_law.nd rfl (Or.inl rfl) (ge_call (ok_l_box T) hgu (hr.mono (by decide)) rfl T.g_l_box T.k_l_box T.b_l_box .nil (fun _ => pass_takes (takes_of rfl rfl rfl rfl)) (pa_cons (ge_call (ok_l_cell T) hgu (hr.mono (by decide)) rfl T.g_l_cell T.k_l_cell T.b_l_cell .nil (fun _ => pass_takes (takes_of rfl rfl rfl rfl)) (pa_cons (pv 0) (pa_cons (pv 1) pa_nil))) pa_nil)))
 (pss_cons (ps_set (i := 3) sc_law.nd rfl (Or.inl rfl) (ge_call (ok_l_weeks T) hgu (hr.mono (by decide)) rfl T.g_l_weeks T.k_l_weeks T.b_l_weeks .nil (fun _ => pass_takes (takes_of rfl rfl rfl rfl)) (pa_cons (pv 2) pa_nil)))
 (pss_cons (ps_if (pt_not (pt_val (ge_call (ok_l_made_right T) hgu (hr.mono (by decide)) rfl T.g_l_made_right T.k_l_made_right T.b_l_made_right .nil (fun _ => pass_takes (takes_of rfl rfl rfl rfl)) (pa_cons (ge_call (ok_l_near T) hgu (hr.mono (by decide)) rfl T.g_l_near T.k_l_near T.b_l_near .nil (fun _ => pass_takes (takes_of rfl rfl rfl rfl)) (pa_cons (pv 2) (pa_cons (pv 3) pa_nil))) pa_nil)))) (pss_one (ps_ret pe_bl)) pss_nil)
 (pss_cons (ps_set (i := 4) sc_law.nd rfl (Or.inl rfl) (ge_makeN T.mk_Year (ok_Year_init T) hgu (hr.mono (by decide)) rfl T.g_Year T.kb_Year_init_2 (fun _ => pass_takes (takes_of rfl rfl rfl rfl)) (pa_cons (pv 3) pa_nil) pk_nil))
 (pss_cons (ps_set (i := 5) sc_law.nd rfl (Or.inl rfl) (pe_op op_addU pe_int (ge_call (ok_l_take T) hgu (hr.mono (by decide)) rfl T.g_l_take T.k_l_take T.b_l_take .nil (fun _ => pass_takes (takes_of rfl rfl rfl rfl)) (pa_cons (pv 2) (pa_cons (pe_callB (call_lenU) (by rfl) T.n_len boot_len (pa_cons (pv 3) pa_nil)) pa_nil)))))
 (pss_cons (ps_expr (ge_methN (pv 4) T.cl_Year T.m_Year_tell (ok_Year_tell T) hgu (hr.mono (by decide)) T.kb_Year_tell_4 (fun _ => pass_takes (takes_of rfl rfl rfl rfl)) (pa_cons (pv 5) (pa_cons pe_int (pa_cons pe_int pa_nil))) pk_nil))
 (pss_one (ps_for (passes_of rfl) rfl (pi_range1 rfl T.n_range (pa_cons pe_int pa_nil)) (pg_name (i := 6) sc_law.nd rfl (Or.inl rfl)) (pss_one (ps_if (pt_not (pt_val (ge_call (ok_l_refused_right T) hgu (hr.mono (by decide)) rfl T.g_l_refused_right T.k_l_refused_right T.b_l_refused_right .nil (fun _ => pass_takes (takes_of rfl rfl rfl rfl)) (pa_cons (pv 2) (pa_cons (pv 4) (pa_cons (pe_callB (call_lenU) (by rfl) T.n_len boot_len (pa_cons (pv 3) pa_nil)) (pa_cons (pe_lst (pa_cons (pv 5) pa_nil)) pa_nil))))))) (pss_one (ps_ret pe_bl)) pss_nil)))))))))))
 (pss_one (ps_ret pe_bl))), ?_⟩)
  · obtain ⟨l, o, ns, R, D, rfl, _⟩ := h
    rfl
  · obtain ⟨l, o, ns, R, D, rfl, hI, hl, go⟩ := h
    have pc := T.pc_Year
    wtm_at "go"
    wtm_at "sn"
    refine for_rng (fun i σ R' D' => ∃ a1 a2 a3 a4 a5 a6 : Option V, σ = [some (.ref l), a1, a2, a3, a4, a5, a6] ∧ R' = R ∧ Ex D D') hI ⟨_, _, _, _, _, _, rfl, rfl, Ex.refl _⟩ (fun i σ R' D' H' hi hI' q => ?_) (fun σ R' D' H' hI' q => ?_)
    · obtain ⟨a1, a2, a3, a4, a5, a6, rfl, hRR, x⟩ := q
      rw [hRR] at hI'
      wtm_at "sn"
      refine cell_now hI' (by wtm_at "dat") (by omega) (by omega) (fun c H5 hI5 => ?_)
      wtm_at "sn"
      refine box_now hI5 (fun b xx yy H6 hI6 bo6 => ?_)
      wtm_at "sn"
      refine lweeksW_use hI6 bo6 (by omega) (fun p xs ns x8 y8 z8 n8 H8 D8 hI8 xx8 bo8 hn8 ep pl n1 n52 nok => ?_)
      wtm_at "sn"
      refine lnear_use hI8 bo8 (by omega) ep pl n1 n52 nok (fun v C x9 y9 z9 n9 H9 D9 hI9 xx9 bo9 hn9 nr => ?_)
      wtm_at "sn"
      refine lmadeR_use hI9 nr (fun H10 D10 hI10 xx10 => ?_)
      have x810 := xx9.trans xx10
      have ep10 := x810 _ _ ep
      wtm_at "sn"
      rename_i ya dya H11 hI11
      refine make_yr hI11 (.l ep10) (pl.mono x810) n1 n52 nok (fun nl td H12 D12 hI12 xx12 iy => ?_)
      have ep12 := xx12 _ _ ep10
      have hl12 := pl.length
      obtain ⟨⟨dx, ea⟩, _⟩ := id iy
      wtm_at "sn"
      rename_i r x13 y13 z13 H13 hI13 bo13 r0 r1
      have t0 : Told D12 [] (fun _ => none) ns.length := ⟨fun _ _ => rfl, fun _ _ h => (nomatch h), ⟨[], rfl, .nil, fun _ h => (nomatch h)⟩⟩
      refine tell_use hI13.swap iy t0 (by omega) (by omega) ⟨by decide, by decide, by decide, by decide⟩ (fun kvs H14 D14 hI14 xx14 t14 => ?_)
      have yo : YrO K D14 ya nl td ns kvs (putM (fun _ => none) (1 + r) (some (7, 5))) (1 + r) := ⟨iy.mono xx14, t14, fun k hk => by
        unfold putM at hk
        by_cases e : k = 1 + r
        · exact e
        · rw [if_neg e] at hk; exact absurd rfl hk, by
        unfold putM
        rw [if_pos rfl]
        exact fun z => by cases z⟩
      have ep14 := xx14 _ _ ep12
      have x014 : Ex D D14 := x.trans (xx8.trans (x810.trans (xx12.trans xx14)))
      clear hI hI' hI5 hI6 hI8 hI9 hI10 hI11 hI12 hI13 xx8 xx9 xx10 xx12 xx14 x810 x iy t0 t14 ep ep10 ep12 nr pl
      wtm_at "sn"
      refine for_rng (fun j σ R' D' => ∃ (a6 : Option V) (x y z : Int) (n' : Nat), σ = [some (.ref l), some (.int (0 + (i : Int))), some (.ref b), some (.ref p), some (.ref ya), some (.int (1 + r)), a6] ∧ R' = (b, bx x y z) :: (td, .dK kvs) :: R ∧ BoxOk n' x y z ∧ n' ≤ n9 + 1 + 40 * j ∧ Ex D14 D') hI14.swap ⟨_, _, _, _, _, rfl, rfl, bo13, by omega, Ex.refl _⟩ (fun j σ R' D' H' hj hI' q => ?_) (fun σ R' D' H' hI' q => ?_)
      · obtain ⟨a6, x, y, z, n', rfl, rfl, bo', hn', xq⟩ := q
        have epq := xq _ _ ep14
        wtm_at "sn"
        rename_i tl H15 D15 hI15 x15 e15
        rw [hl12]
        refine refused_use hI15 bo' (by omega) (yo.mono (xq.trans x15)) e15 (fun x16 y16 z16 n16 H16 D16 hI16 xx16 bo16 hn16 => ?_)
        wtm_at "sn"
        exact ⟨_, _, hI16, _, _, _, _, _, rfl, rfl, bo16, by omega, xq.trans (x15.trans xx16)⟩
      · obtain ⟨a6, x, y, z, n', rfl, rfl, bo', hn', xq⟩ := q
        exact ⟨_, _, hI'.drop.drop, _, _, _, _, _, _, rfl, rfl, x014.trans xq⟩
    · obtain ⟨a1, a2, a3, a4, a5, a6, rfl, hRR, x⟩ := q
      wtm_at "sn"
      exact go _
end Wk
set_option maxRecDepth 100000
set_option maxHeartbeats 0
namespace Wk
open PySem PySem.Spec PyProof.Rows L2
theorem law_hc {q : Program} {loose : List Str} {XP : (Str → Option Value) → Heap → Prop} {d : DefRec} (hdf : d.params.defaults = []) (hnm : d.name = "law") : PySem.W.WalkO q loose XP hk.says (PySem.W.OpenLaw.row PySem.Challenge.rw_weekheads_k12_years_refused).toRowW d [] (fun f vs => PySem.call f vs) := by
  refine law_endG (l := PySem.Challenge.rw_weekheads_k12_years_refused) (n := 63) (k := 9) (x := "script") rfl (by decide) hdf ⟨rfl, by decide, by decide⟩ (fun w mg fa h Y G hmg => ?_)
  obtain ⟨K, X, c⟩ := Y
  have T : Tx K mg := ⟨c, h, X, G⟩
  rw [hnm] at hmg
  have e := hmg.symm.trans T.g_law
  cases e
  exact ⟨K, spLaw, X, T.nol, fun s u => FunD.bindsA (ps := ["script"]) T.f_law (fun _ _ _ _ _ _ us hl => match us, hl with | [_], _ => rfl) s [u] rfl, fun H a o ns hl hI ha => ⟨a, o, ns, [], H, rfl, hI, ha, fun _ => rfl⟩, fun base _ _ => ok_law T⟩
end Wk
theorem PySem.Challenge.cw_weekheads_k12_years_refused_holds : PySem.Challenge.rw_weekheads_k12_years_refused.Holds := by
  exact Wk.lawFin fun h1 h2 => Wk.law_hc h1 h2
