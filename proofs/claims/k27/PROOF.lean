import PyProof.Rows.All
import Wide.All
import OpenK.AllK
import Wide.FinOn
import KE.KStateDown
import HandS.ForExc
import HandS.Defaults
import HandS.Head0
import HandS.Head1
import HandS.Head2
import HandS.HeadEnd
import HandS.HeadHook1
import HandS.HeadHook2
import HandS.ForMost
import HandS.Wide
import HandS.IsInst
import HandS.Flow
import HandS.Evl
import PyProof.ReprRoads
import PyProof.CallFns
import HandS.Text
import HandS.Walk
import HandS.ExcInit
import HandS.ExcIs
import HandS.ExcOwn
import HandS.TryMany
import HandS.MakeKwOnly
import KE.KCallOwn
import OpenK.KOps
import HandS.FStr
import PyProof.ExcRepr
import PyProof.ExcReprCall
import HandS.NamedTupSort
import PyProof.StrLawsRepr
import PyProof.ReprLen
import PyProof.StrLawsChain
import PyProof.StrLawsTight
import HandS.StrMore
import HandS.WordsDict
import HandS.More
import HandS.SortKw
import KE.GoesEnumKw
import HandS.Style
import PyProof.NeKinds
import PySem.Challenge.RW_weekheads_k27_whole_later_and_called_oth
set_option Elab.async false
set_option linter.all false
set_option maxRecDepth 100000
set_option maxHeartbeats 4000000
namespace WA
open PySem PySem.Spec PyProof.Rows L2
/-- a name's value in a namespace, for picking alone -/
def nm (g : Addr → Option Obj) (n : Addr) (x : Str) : Option Value := (g n).bind fun o => match o.data with
  | .dict es _ => (es.toList.find? fun e => e.key.isStr x).map fun e => e.val
  | _ => none
def ad : Option Value → Addr
  | some (.ref a) => a
  | _ => 0
def adV : Value → List Addr
  | .ref a => [a]
  | _ => []
def nsOf (g : Addr → Option Obj) (C : Addr) : Addr := match g C with
  | some o => (match o.data with
    | .cls cd => cd.ns
    | _ => 0)
  | none => 0
def fnOf (g : Addr → Option Obj) (f : Addr) : List Addr := match g f with
  | some o => (match o.data with
    | .func fd => f :: (adV fd.code ++ adV fd.defaults)
    | _ => [f])
  | none => []
def atOf (g : Addr → Option Obj) (p : Str × Option Str) : Addr := match p.2 with
  | none => ad (nm g mainGlobals p.1)
  | some m => ad (nm g (nsOf g (ad (nm g mainGlobals p.1))) m)
/-- the objects that are looked at: the module's names, the classes, the defs -/
def pick (g : Addr → Option Obj) (cs : List Str) (fs : List (Str × Option Str)) : List Addr :=
  mainGlobals :: sysModules :: cStatics :: ((cs.flatMap fun x => [ad (nm g mainGlobals x), nsOf g (ad (nm g mainGlobals x))]) ++ fs.flatMap fun p => fnOf g (atOf g p))
/-- a list is laid open ahead of what follows -/
def openL {α : Type} : PySem.W.Frag → (PySem.W.Frag → α) → α
  | [], k => k []
  | (a, o) :: r, k => HandSHeadRun.frNat a fun a => openL r fun r => k ((a, o) :: r)
theorem openL_eq {α : Type} : ∀ (K : PySem.W.Frag) (k : PySem.W.Frag → α), openL K k = k K
  | [], k => rfl
  | (a, o) :: r, k => by
    show HandSHeadRun.frNat a (fun a => openL r fun r => k ((a, o) :: r)) = _
    rw [HandSHeadRun.frNat_eq, openL_eq r]
abbrev Fx := PySem.W.Frag → Bool
abbrev AlX : Type := Bool × List He.FnW
def obsX (fx : List Fx) (fn : List He.DefD) (K : PySem.W.Frag) : AlX := ((fx.all fun f => f K) && fn.all fun d => d.ok K, fn.map fun d => He.fnW K d.at_)
def valX (fn : List He.DefD) : AlX := (true, fn.map He.DefD.val)
def SaysX (fx : List Fx) (fn : List He.DefD) (K : PySem.W.Frag) : Prop := obsX fx fn K = valX fn
def obsXG (cs : List Str) (fx : List Fx) (fn : List He.DefD) (g : Addr → Option Obj) : AlX := openL (He.frG g (pick g cs (fn.map fun d => d.at_))) fun K => obsX fx fn K
def hookX (cs : List Str) (fx : List Fx) (fn : List He.DefD) : PySem.W.Hook where
  α := AlX
  obs := fun s => obsXG cs fx fn s.heap.get?
  val := fun _ => valX fn
  says := fun _ h => ∃ K : PySem.W.Frag, K.In h ∧ SaysX fx fn K
  of := fun _ _ e => ⟨_, He.frG_in, by
    unfold obsXG at e
    rw [openL_eq] at e
    exact e⟩
  keeps := fun _ _ _ ⟨K, X, c⟩ k => ⟨K, X.keeps k, c⟩
theorem obsXG_eq {cs : List Str} {fx : List Fx} {fn : List He.DefD} {g : Addr → Option Obj} {s : Shared} (h : ∀ a, g a = s.heap.get? a) : obsXG cs fx fn g = (hookX cs fx fn).obs s := by
  have e : g = s.heap.get? := funext h
  rw [e]
  rfl
section
variable {fx : List Fx} {fn : List He.DefD} {K : PySem.W.Frag}
theorem SaysX.two (c : SaysX fx fn K) : (∀ f ∈ fx, f K = true) ∧ (∀ d ∈ fn, d.ok K = true) ∧ fn.map (fun d => He.fnW K d.at_) = fn.map He.DefD.val := by
  have c1 : ((fx.all fun f => f K) && fn.all fun d => d.ok K) = true := congrArg Prod.fst c
  have c2 : fn.map (fun d => He.fnW K d.at_) = fn.map He.DefD.val := congrArg Prod.snd c
  obtain ⟨a, b⟩ := He.ba c1
  exact ⟨List.all_eq_true.mp a, List.all_eq_true.mp b, c2⟩
theorem SaysX.fact (c : SaysX fx fn K) (i : Nat) {f : Fx} (h : fx[i]? = some f := by rfl) : f K = true := c.two.1 f (List.mem_of_getElem? h)
theorem SaysX.def_ (c : SaysX fx fn K) (i : Nat) {d : He.DefD} (h : fn[i]? = some d := by rfl) : ∃ fd, FunD K d.name d.qual d.params d.body d.scope (d.dvs K) (d.kws K) (He.fAd K d.at_) fd := by
  obtain ⟨_, b, e⟩ := c.two
  have e1 : (fn.map fun d => He.fnW K d.at_)[i]? = (fn.map He.DefD.val)[i]? := by rw [e]
  rw [List.getElem?_map, List.getElem?_map, h] at e1
  exact He.DefD.funD (Option.some.inj e1) (b d (List.mem_of_getElem? h))
end
end WA
set_option maxRecDepth 100000
set_option maxHeartbeats 4000000
namespace Wk
open PySem PySem.Spec PyProof.Rows L2
structure HI (H : Hp) (R : List (Addr × HO)) (D : Hp) : Prop where
  nd : (R.map (·.1)).Nodup
  cell : ∀ p ∈ R, H p.1 = some p.2 ∧ D p.1 = none
  sub : ∀ a o, D a = some o → H a = some o
/-- more data -/
def Ex (D D' : Hp) : Prop := ∀ a o, D a = some o → D' a = some o
theorem Ex.refl (D : Hp) : Ex D D := fun _ _ h => h
theorem Ex.trans {D D1 D2 : Hp} (a : Ex D D1) (b : Ex D1 D2) : Ex D D2 := fun x o h => b x o (a x o h)
theorem Ex.new {D : Hp} {p : Addr} {o : HO} (h : D p = none) : Ex D (upd D p o) := fun a u e => by
  rw [upd_ne (ne_of_none e h)]
  exact e
section
variable {H D : Hp} {R : List (Addr × HO)} {a p : Addr} {o u : HO} {x y z : Addr × HO}
theorem HI.get (h : HI H R D) (m : (a, o) ∈ R) : H a = some o := (h.cell _ m).1
theorem HI.dat (h : HI H R D) (d : D a = some o) : H a = some o := h.sub a o d
theorem HI.free (h : HI H R D) (hp : H p = none) : D p = none := by
  cases q : D p with
  | none => rfl
  | some w =>
    rw [h.sub p w q] at hp
    cases hp
theorem HI.notin (h : HI H R D) (hp : H p = none) : p ∉ R.map (·.1) := fun m => by
  obtain ⟨q, hq, e⟩ := List.mem_map.mp m
  have := (h.cell q hq).1
  rw [e, hp] at this
  cases this
/-- a new cell -/
theorem HI.new (h : HI H R D) (hp : H p = none) : HI (upd H p o) ((p, o) :: R) D := by
  have nm := h.notin hp
  refine ⟨by rw [List.map_cons]; exact List.nodup_cons.mpr ⟨nm, h.nd⟩, fun q hq => ?_, fun b w e => ?_⟩
  · rcases List.mem_cons.mp hq with e | hq
    · rw [e]
      exact ⟨upd_same, h.free hp⟩
    · have ne : q.1 ≠ p := fun e => nm (List.mem_map.mpr ⟨q, hq, e⟩)
      rw [upd_ne ne]
      exact h.cell q hq
  · rw [upd_ne (ne_of_none (h.sub b w e) hp)]
    exact h.sub b w e
/-- new data -/
theorem HI.newD (h : HI H R D) (hp : H p = none) : HI (upd H p o) R (upd D p o) := by
  have nm := h.notin hp
  refine ⟨h.nd, fun q hq => ?_, fun b w e => ?_⟩
  · have ne : q.1 ≠ p := fun e => nm (List.mem_map.mpr ⟨q, hq, e⟩)
    rw [upd_ne ne, upd_ne ne]
    exact h.cell q hq
  · by_cases e2 : b = p
    · rw [e2, upd_same] at e ⊢
      exact e
    · rw [upd_ne e2] at e ⊢
      exact h.sub b w e
/-- a cell is changed -/
theorem HI.set (h : HI H ((a, o) :: R) D) : HI (upd H a u) ((a, u) :: R) D := by
  have nd : a ∉ R.map (·.1) := (List.nodup_cons.mp h.nd).1
  refine ⟨h.nd, fun q hq => ?_, fun b w e => ?_⟩
  · rcases List.mem_cons.mp hq with e | hq
    · rw [e]
      exact ⟨upd_same, (h.cell (a, o) (List.mem_cons_self ..)).2⟩
    · have ne : q.1 ≠ a := fun e => nd (List.mem_map.mpr ⟨q, hq, e⟩)
      rw [upd_ne ne]
      exact h.cell q (List.mem_cons_of_mem _ hq)
  · have ne : b ≠ a := fun e2 => by
      rw [e2, (h.cell (a, o) (List.mem_cons_self ..)).2] at e
      cases e
    rw [upd_ne ne]
    exact h.sub b w e
/-- a cell becomes data -/
theorem HI.freeze (h : HI H ((a, o) :: R) D) : HI H R (upd D a o) := by
  have nd : a ∉ R.map (·.1) := (List.nodup_cons.mp h.nd).1
  refine ⟨(List.nodup_cons.mp h.nd).2, fun q hq => ?_, fun b w e => ?_⟩
  · have ne : q.1 ≠ a := fun e => nd (List.mem_map.mpr ⟨q, hq, e⟩)
    rw [upd_ne ne]
    exact h.cell q (List.mem_cons_of_mem _ hq)
  · by_cases e2 : b = a
    · rw [e2, upd_same] at e
      cases e
      rw [e2]
      exact (h.cell (a, o) (List.mem_cons_self ..)).1
    · rw [upd_ne e2] at e
      exact h.sub b w e
theorem HI.freezeX (h : HI H ((a, o) :: R) D) : Ex D (upd D a o) := Ex.new (h.cell (a, o) (List.mem_cons_self ..)).2
/-- forgetting a cell -/
theorem HI.drop (h : HI H (x :: R) D) : HI H R D := ⟨(List.nodup_cons.mp h.nd).2, fun q hq => h.cell q (List.mem_cons_of_mem _ hq), h.sub⟩
theorem HI.perm {R' : List (Addr × HO)} (h : HI H R D) (p : R.Perm R') : HI H R' D :=
  ⟨(p.map (·.1)).nodup_iff.mp h.nd, fun q hq => h.cell q (p.mem_iff.mpr hq), h.sub⟩
theorem HI.swap (h : HI H (x :: y :: R) D) : HI H (y :: x :: R) D := h.perm (List.Perm.swap ..)
theorem HI.up2 (h : HI H (x :: y :: z :: R) D) : HI H (z :: x :: y :: R) D := h.perm (by
  refine List.Perm.trans (List.Perm.cons x (List.Perm.swap z y R)) ?_
  exact List.Perm.swap z x (y :: R))
theorem HI.dn2 (h : HI H (x :: y :: z :: R) D) : HI H (y :: z :: x :: R) D := h.perm (by
  refine List.Perm.trans (List.Perm.swap y x (z :: R)) ?_
  exact List.Perm.cons y (List.Perm.swap z x R))
theorem HI.set2 (h : HI H (x :: (a, o) :: R) D) : HI (upd H a u) (x :: (a, u) :: R) D := h.swap.set.swap
theorem HI.set3 (h : HI H (x :: y :: (a, o) :: R) D) : HI (upd H a u) (x :: y :: (a, u) :: R) D := h.up2.set.dn2
end
/-- a new object, data from now on; a new cell -/
def AlD (o : HO) (H : Hp) (Q : VK) : Prop := ∀ p, H p = none → Q (.ref p) (upd H p o)
def AlM (o : HO) (H : Hp) (Q : VK) : Prop := ∀ p, H p = none → Q (.ref p) (upd H p o)
theorem al_D {H D : Hp} {R : List (Addr × HO)} {o : HO} {Q : VK} (h : HI H R D) (k : ∀ p H' D', HI H' R D' → Ex D D' → D' p = some o → Q (.ref p) H') : AlD o H Q :=
  fun p hp => k p _ _ (h.newD hp) (Ex.new (h.free hp)) upd_same
theorem al_M {H D : Hp} {R : List (Addr × HO)} {o : HO} {Q : VK} (h : HI H R D) (k : ∀ p H', HI H' ((p, o) :: R) D → Q (.ref p) H') : AlM o H Q :=
  fun p hp => k p _ (h.new hp)
theorem HI.up3 {H D : Hp} {R : List (Addr × HO)} {x y z u : Addr × HO} (h : HI H (x :: y :: z :: u :: R) D) : HI H (u :: x :: y :: z :: R) D := h.perm (by
  refine List.Perm.trans (List.Perm.cons x (List.Perm.cons y (List.Perm.swap u z R))) ?_
  refine List.Perm.trans (List.Perm.cons x (List.Perm.swap u y (z :: R))) ?_
  exact List.Perm.swap u x (y :: z :: R))
section
variable {K : PySem.W.Frag} {σ : L2.St} {H : Hp} {Q : VK} {ta tb tc te : TE} {D : Ends} {t u : TS} {tt tt2 : TT} {QB : Bool → Hp → Prop}
theorem st_seq (h : t { D with nx := u D } σ H) : tSeq t u D σ H := h
theorem st_asg {g : TG} (h : te σ H fun x H1 => g x σ H1 D.nx) : tAsg te g D σ H := h
theorem st_ret (h : te σ H D.rt) : tRet te D σ H := h
theorem st_if (h : tt σ H fun b H1 => if b = true then t D σ H1 else u D σ H1) : tIfS tt t u D σ H := h
theorem st_drop (h : te σ H fun _ H1 => D.nx σ H1) : tDrop te D σ H := h
theorem st_next (h : D.nx σ H) : tNext D σ H := h
theorem st_brk (h : D.bk σ H) : tBreak D σ H := h
theorem st_cont (h : D.ct σ H) : tCont D σ H := h
theorem sg_name {i : Nat} {v : V} {N : L2.St → Hp → Prop} (h : N (σ.set i (some v)) H) : gName i v σ H N := h
theorem sg_sub {to ti : TE} {s : TSet} {v : V} {N : L2.St → Hp → Prop} (h : to σ H fun o H1 => ti σ H1 fun i H2 => s o i v H2 fun H3 => N σ H3) : gSub to ti s v σ H N := h
theorem sg_tup {n : Nat} {gs : TGs} {a : Addr} {xs : List V} {N : L2.St → Hp → Prop} (hx : SqT K H a xs) (hl : xs.length = n) (h : gs xs σ H N) : gTup K n gs (.ref a) σ H N := ⟨a, xs, rfl, hx, hl, h⟩
theorem sg_nil {N : L2.St → Hp → Prop} (h : N σ H) : gNil [] σ H N := ⟨rfl, h⟩
theorem sg_cons {g : TG} {gs : TGs} {v : V} {r : List V} {N : L2.St → Hp → Prop} (h : g v σ H fun σ' H' => gs r σ' H' N) : gCons g gs (v :: r) σ H N := ⟨v, r, rfl, h⟩
theorem se_var {i : Nat} {v : V} (e : σ[i]? = some (some v)) (h : Q v H) : tVar i σ H Q := ⟨v, e, h⟩
theorem se_c {v : V} (h : Q v H) : tC v σ H Q := h
theorem se_op {r : R2} (h : ta σ H fun x H1 => tb σ H1 fun y H2 => r x y H2 Q) : tOp r ta tb σ H Q := h
theorem se_un {r : V → Hp → VK → Prop} (h : ta σ H fun x H1 => r x H1 Q) : tUn r ta σ H Q := h
theorem se_tup {t : TA} (h : t σ H fun xs H1 => xs.length ≤ sizeLine ∧ AlD (.tup xs) H1 Q) : tTup t σ H Q := h
theorem se_lst {t : TA} (h : t σ H fun xs H1 => xs.length ≤ sizeLine ∧ AlD (.lst xs) H1 Q) : tLst t σ H Q := h
/-- a list that will change -/
def tLstM (t : TA) : TE := tLst t
theorem se_lstM {t : TA} (h : t σ H fun xs H1 => xs.length ≤ sizeLine ∧ AlM (.lst xs) H1 Q) : tLstM t σ H Q := h
theorem sa_nil {N : List V → Hp → Prop} (h : N [] H) : tNil σ H N := h
theorem sa_cons {t : TA} {N : List V → Hp → Prop} (h : te σ H fun x H1 => t σ H1 fun xs H2 => N (x :: xs) H2) : tCons te t σ H N := h
theorem se_cb {r : List V → Hp → VK → Prop} {t : TA} (h : t σ H fun vs H1 => r vs H1 Q) : tCB r t σ H Q := h
theorem se_if (h : tt σ H fun b H1 => if b = true then ta σ H1 Q else tb σ H1 Q) : tIf tt ta tb σ H Q := h
theorem st_test (h : te σ H fun x H1 => ∃ k, x = .bl k ∧ QB k H1) : tTest te σ H QB := h
theorem st_B (h : te σ H fun x H1 => ∃ k, x = .bl k ∧ QB k H1) : tB te σ H QB := h
theorem st_bl {k : Bool} {N : Bool → Prop} (h : N k) : ∃ k', (V.bl k) = .bl k' ∧ N k' := ⟨k, rfl, h⟩
theorem st_and (h : tt σ H fun c H1 => if c = true then tt2 σ H1 QB else QB false H1) : tAnd tt tt2 σ H QB := h
theorem st_or (h : tt σ H fun c H1 => if c = true then QB true H1 else tt2 σ H1 QB) : tOr tt tt2 σ H QB := h
theorem st_not (h : tt σ H fun c H1 => QB (!c) H1) : tNot tt σ H QB := h
theorem ri_mk {C : Int → Int → Prop} {g : Int → Int → V} {i j : Int} (c : C i j) (h : Q (g i j) H) : rI C g (.int i) (.int j) H Q := ⟨i, j, rfl, rfl, c, h⟩
theorem ri0_mk {g : Int → Int → V} {i j : Int} (h : Q (g i j) H) : rI0 g (.int i) (.int j) H Q := ⟨i, j, rfl, rfl, h⟩
end
theorem if_dec {c A B : Prop} [Decidable c] (h1 : c → A) (h2 : ¬ c → B) : if decide c = true then A else B := by
  by_cases h : c
  · rw [if_pos (decide_eq_true h)]
    exact h1 h
  · rw [if_neg (by rw [decide_eq_false h]; decide)]
    exact h2 h
theorem if_yes {c A B : Prop} [Decidable c] (h : c) (a : A) : if decide c = true then A else B := by
  rw [if_pos (decide_eq_true h)]
  exact a
theorem if_no {c A B : Prop} [Decidable c] (h : ¬ c) (b : B) : if decide c = true then A else B := by
  rw [if_neg (by rw [decide_eq_false h]; decide)]
  exact b
theorem if_yesN {c A B : Prop} [Decidable c] (h : c) (b : B) : if (!decide c) = true then A else B := by
  rw [decide_eq_true h]
  exact iteF b
theorem if_noN {c A B : Prop} [Decidable c] (h : ¬ c) (a : A) : if (!decide c) = true then A else B := by
  rw [decide_eq_false h]
  exact iteT a
theorem small_ok {n : Nat} (h : n ≤ 1000000) : n ≤ sizeLine := Nat.le_trans h (by rw [sizeLine_eq]; decide)
theorem and_on {A B : Prop} (a : A) (b : B) : A ∧ B := ⟨a, b⟩
end Wk
set_option maxRecDepth 100000
set_option maxHeartbeats 4000000
namespace Wk
open PySem PySem.Spec PyProof.Rows L2
/-- the function object that stands at f -/
def fdOf (K : PySem.W.Frag) (f : Addr) : FuncData := match K.lookup f with
  | some ⟨_, _, .func fd, _⟩ => fd
  | _ => PySem.W.fnOf "" "" { posonlyargs := [], args := [], vararg := none, kwonlyargs := [], kw_defaults := [], kwarg := none, defaults := [] } [] { kind := .function, names := [], isGenerator := false, isCoroutine := false } .none .none .none .none none .none .none
/-- a def of the text, as it stands behind the top -/
def FD (K : PySem.W.Frag) (x qual : Str) (st : Stmt) (dvs : List V) (f : Addr) : Prop := FunD K x qual (defArgs st) (defBody st) (defScope st) dvs [] f (fdOf K f)
theorem fd_of {K : PySem.W.Frag} {x qual : Str} {st : Stmt} {dvs : List V} {f : Addr} {fd : FuncData} (F : FunD K x qual (defArgs st) (defBody st) (defScope st) dvs [] f fd) : FD K x qual st dvs f := by
  obtain ⟨oc, od, dV, kV, doc, pm, an, cdv, ct, osl, e, lk, r⟩ := F.ex
  have q : fdOf K f = fd := by
    unfold fdOf
    rw [lk]
  unfold FD
  rw [q]
  exact F
/-- the promise: FnOk's, where no container is about to be shown around -/
structure FnG (P : Program) (w : World) (K : PySem.W.Frag) (mg : Str → Option Value) (base : Heap) (k : Nat) (f : Addr) (ps : List Str) (sp : Sp) : Prop where
  len : ∀ vs H Q E, sp vs H Q E → vs.length = ps.length
  run : ∀ (A : Around) (outer : List Env) (s : Shared) (H : Hp) (args : Args) (us : List Value) (vs : List V) (Q : VK) (E : XK), A.guards = some [] → Room k A → Env0 P w K mg base A outer s H →
    BindsTo s (fdOf K f) args (ps.zip us) → Vals vs us → sp vs H Q E → codeAny (model P w) A (.call (.ref f) args) (CR (L2.CX P w) outer P w H s Q E) s
theorem FnG.mono {P : Program} {w : World} {K : PySem.W.Frag} {mg : Str → Option Value} {base : Heap} {j k : Nat} {f : Addr} {ps : List Str} {sp : Sp} (F : FnG P w K mg base j f ps sp) (h : j ≤ k) : FnG P w K mg base k f ps sp :=
  ⟨F.len, fun A outer s H args us vs Q E hg hr => F.run A outer s H args us vs Q E hg (hr.mono h)⟩
section
variable {P : Program} {w : World} {K : PySem.W.Frag} {mg : Str → Option Value} {base : Heap}
theorem FD.ok {x qual : Str} {st : Stmt} {dvs : List V} {f : Addr} {N ps : List Str} {k : Nat} {sp : Sp} (F : FD K x qual st dvs f) (S : FnScope N ps (defScope st)) (len : ∀ vs H Q E, sp vs H Q E → vs.length = ps.length)
    (hbody : ∀ (cdv : Value) (A : Around) (outer : List Env) (s : Shared) (H : Hp) (vs : List V) (Q : VK) (E : XK), A.guards = some [] → Room k (A.deeper (envOfC qual (defScope st) s.heap.objs.size f cdv)) → sp vs H Q E →
      ∃ t, PSs (cxOf (L2.CX P w) P w K mg base N qual (defScope st) f cdv A outer s H E) (defBody st) t ∧ t { nx := fun _ H' => Q .non H', rt := Q } (start N vs) H) : FnG P w K mg base (k + 1) f ps sp := by
  obtain ⟨oc, od, dV, kV, doc, pm, an, cdv, ct, osl, efd, lk, hcd, _, _⟩ := FunD.ex F
  refine ⟨len, fun A outer s H args us vs Q E hgu hr e0 hb r hsp => ?_⟩
  have hl := len _ _ _ _ hsp
  have KX : K.In s.heap := e0.mod.kin.keeps fun b o e => (e0.bs b o e).1
  have lim : s.heap.NoLimit := e0.mod.nolimit.keeps fun b o e => (e0.bs b o e).1
  rw [efd] at lk hb
  have hk : ∀ y ∈ ps.zip us, (defScope st).names.lookup y.1 = some .local ∨ ((defScope st).names.lookup y.1 = some .cell ∧ ((cellsFrom (s.heap.objs.size + 1) (defScope st).names []).lookup y.1).isSome = true) := fun ⟨n, v⟩ hy => by
    rcases S.par n (List.of_mem_zip hy).1 with q | q
    · exact .inl q
    · exact .inr ⟨q, PySem.W.cellsFrom_some _ _ _ (.inl q)⟩
  refine codeAny_call_function hr.depth (KX _ _ lk) rfl S.co S.gen rfl (PySem.W.codeRec_of KX hcd) (hb _ _ _ _ ?_)
  refine wpAny_newFunctionEnv_cells S.kind hk fun env he s1 x => ?_
  subst he
  refine ⟨lim.keeps x.toInCall.keep, codeAny_func ?_⟩
  obtain ⟨t, ht, hq⟩ := hbody cdv A outer s H vs Q E hgu (hr.deeper _) hsp
  have I : Inv (cxOf (L2.CX P w) P w K mg base N qual (defScope st) f cdv A outer s H E) [] (start N vs) H s1 := inv_start S hr.hd e0 hl r x
  refine wpAny_mono (ht.run [] s1 (start N vs) H _ I hq) (fun fl s' hs => ?_) fun e s' hs => hs
  cases fl with
  | ret u =>
    obtain ⟨v, σ', H', J, rv, q⟩ := hs
    exact ⟨v, H', J.os, J.bare, J.base, J.hok, rv, q⟩
  | next =>
    obtain ⟨σ', H', J, q⟩ := hs
    exact ⟨V.non, H', J.os, J.bare, J.base, J.hok, rfl, q⟩
  | brk =>
    obtain ⟨_, _, _, q⟩ := hs
    exact False.elim q
  | cont =>
    obtain ⟨_, _, _, q⟩ := hs
    exact False.elim q
end
/-- what a callee lets out is taken at the caller's slots -/
def PassG (X : Cx) (σ : L2.St) (E : XK) : Prop := ∀ (pins : List (Addr × Obj)) (H : Hp) (s : Shared) (e : Value) (s' : Shared), Inv X pins σ H s → L2.CX X.prog X.w X.stack H s E e s' → X.xe e s'
theorem pass_none {X : Cx} {σ : L2.St} : PassG X σ E0 := fun _ _ _ _ _ _ h => by
  obtain ⟨_, _, _, _, _, _, _, _, _, _, _, _, z⟩ := h
  exact z.elim
theorem pass_takes {X : Cx} {W : L2.WX} {σ : L2.St} (tk : Takes X W) : PassG X σ (fun cls d H => W cls d σ H) :=
  fun _ _ _ e s' I c => tk e s' (XE.of_call I (fun _ _ _ h => h) c)
section
variable {X : Cx} {k : Nat} {f C : Addr} {ps ks : List Str} {sp : Sp} {dvs : List V} {ds : List Value} {E : L2.St → XK} {x m : Str} {p pos apos : Pos} {e o : Expr} {es : List Expr} {ta : TE} {t tk : TA} {kws : List Keyword}
theorem run_fnG {pins : List (Addr × Obj)} {σ : L2.St} {H : Hp} {s : Shared} {Q : VK} {us : List Value} {kw : List (Str × Value)} {ws : List Value} {zs : List V} (F : FnG X.prog X.w X.K X.mg X.base k f ps sp) (hgu : X.A.guards = some []) (hr : Room k X.A)
    (hx : PassG X σ (E σ)) (I : Inv X pins σ H s) (hb : BindsTo s (fdOf X.K f) ⟨us, kw⟩ (ps.zip ws)) (r : Vals zs ws) (h : sp zs H Q (E σ)) : wpAny (model X.prog X.w) X.A (call (.ref f) us kw) (EP X pins σ Q) X.xe s := by
  refine wpAny_call (codeAny_mono (F.run X.A X.stack s H ⟨us, kw⟩ ws zs Q (E σ) hgu hr I.env0 hb r h) fun r s' hq => ?_)
  cases r with
  | error e => exact hx pins H s e s' I hq
  | ok fl =>
    cases fl with
    | ret u => exact I.after hq
    | next => exact False.elim hq
    | brk => exact False.elim hq
    | cont => exact False.elim hq
def gCall (sp : Sp) (dvs : List V) (E : L2.St → XK) (t : TA) : TE := fun σ H Q => t σ H fun vs H1 => sp (vs ++ dvs) H1 Q (E σ)
theorem bind_of {ds : List Value} {dvs : List V} {s : Shared} {H : Hp} {Q : VK} {E : XK} {us : List Value} {vs : List V} (F : FnG X.prog X.w X.K X.mg X.base k f ps sp) (hb : Binds X.K (fdOf X.K f) ps ds) (hd : Vals dvs ds) (r : Vals vs us) (KX : X.K.In s.heap) (h : sp (vs ++ dvs) H Q E) :
    BindsTo s (fdOf X.K f) ⟨us, []⟩ (ps.zip (us ++ ds)) := by
  refine hb s us KX ?_
  rw [← (r.append hd).length]
  exact F.len _ _ _ _ h
theorem ge_call (F : FnG X.prog X.w X.K X.mg X.base k f ps sp) (hgu : X.A.guards = some []) (hr : Room k X.A) (hg : Gl X x) (hm : X.mg x = some (.ref f)) (hk : PySem.W.keepIn X.K (.ref f) = true) (hb : Binds X.K (fdOf X.K f) ps ds) (hd : Vals dvs ds) (hx : ∀ σ, PassG X σ (E σ))
    (ha : PA X (e :: es) t) (hdb : (x == ("__debug__" : Str)) = false := by decide) (he : starEach (e :: es) X.env = (false, eval e X.env) :: starEach es X.env := by rfl) (hpl : (backTo pos (starEach es X.env)).any (·.1) = false := by rfl) :
    PE X (.Call (.Name x p) (e :: es) [] pos) (gCall sp dvs E t) := by
  refine ⟨fun pins s σ H Q I h => ?_⟩
  refine wpAny_Call_Name_kw (ld_glob I hg hm ?_ hdb)
  refine PySem.W.callWith_K (h₀ := X.base) I.ok.mod.kin hk (thn (ha.run pos pins s σ H _ I h) fun us s1 ⟨vs, H1, I1, r, q⟩ => ⟨I1.kIn, ?_⟩) he hpl
  exact run_fnG F hgu hr (hx σ) I1 (bind_of F hb hd r I1.kIn q) (r.append hd) q
def gMeth (C : Addr) (m : Str) (sp : Sp) (dvs : List V) (E : L2.St → XK) (ta : TE) (t : TA) : TE := fun σ H Q => ta σ H fun x H1 => ∃ a dx fs, x = .ref a ∧ H1 a = some (.ins C dx fs) ∧ fs.lookup m = none ∧
  t σ H1 fun vs H2 => sp (x :: (vs ++ dvs)) H2 Q (E σ)
theorem ge_meth {pl : Sem Bool} (he : PE X o ta) (c : Cls X.K C) (hm : Meth X.K C m f) (F : FnG X.prog X.w X.K X.mg X.base k f ps sp) (hgu : X.A.guards = some []) (hr : Room k X.A) (hb : Binds X.K (fdOf X.K f) ps ds) (hd : Vals dvs ds) (hx : ∀ σ, PassG X σ (E σ)) (ha : PA X (e :: es) t)
    (hst : starEach (e :: es) X.env = (false, eval e X.env) :: starEach es X.env := by rfl) (hpl : (backTo pos (starEach es X.env)).any (·.1) = false := by rfl)
    (ht : eval (.Call (.Attribute o m apos) (e :: es) [] pos) X.env = (do
      let ov ← eval o X.env
      standAt apos.atName
      let (f, first) ← holding [ov] (getMethod ov m pl)
      callWith pos f first (backTo pos (starEach (e :: es) X.env)) (backToKw pos (keywordEach [] X.env))) := by rfl) :
    PE X (.Call (.Attribute o m apos) (e :: es) [] pos) (gMeth C m sp dvs E ta t) := by
  refine ⟨fun pins s σ H Q I h => ?_⟩
  refine PySem.W.methodCall_KW (pl := pl) (thn (he.run pins s σ H _ I h) fun u s1 ⟨x, H1, I1, rx, a, dx, fs, ex, ea, l, q⟩ => ?_) ht
  subst ex
  obtain rfl : u = Value.ref a := rx
  refine getmeth_ok I1 ea c hm l ?_
  refine PySem.W.callWith_K (first := [.ref a]) (h₀ := X.base) I.ok.mod.kin hm.kp (thn (ha.run pos pins s1 σ H1 _ I1 q) fun us s2 ⟨vs, H2, I2, r, q2⟩ => ⟨I2.kIn, ?_⟩) hst hpl
  have r2 : Vals (V.ref a :: vs) (Value.ref a :: us) := .cons rfl r
  exact run_fnG F hgu hr (hx σ) I2 (bind_of F hb hd r2 I2.kIn q2) (r2.append hd) q2
theorem ge_meth0 {pl : Sem Bool} (he : PE X o ta) (c : Cls X.K C) (hm : Meth X.K C m f) (F : FnG X.prog X.w X.K X.mg X.base k f ps sp) (hgu : X.A.guards = some []) (hr : Room k X.A) (hb : Binds X.K (fdOf X.K f) ps ds) (hd : Vals dvs ds) (hx : ∀ σ, PassG X σ (E σ))
    (ht : eval (.Call (.Attribute o m apos) [] [] pos) X.env = (do
      let ov ← eval o X.env
      standAt apos.atName
      let (f, first) ← holding [ov] (getMethod ov m pl)
      callWith pos f first (backTo pos (starEach [] X.env)) (backToKw pos (keywordEach [] X.env))) := by rfl) :
    PE X (.Call (.Attribute o m apos) [] [] pos) (gMeth C m sp dvs E ta tNil) := by
  refine ⟨fun pins s σ H Q I h => ?_⟩
  refine PySem.W.methodCall_KW (pl := pl) (thn (he.run pins s σ H _ I h) fun u s1 ⟨x, H1, I1, rx, a, dx, fs, ex, ea, l, q⟩ => ?_) ht
  subst ex
  obtain rfl : u = Value.ref a := rx
  refine getmeth_ok I1 ea c hm l ?_
  have r2 : Vals [V.ref a] [Value.ref a] := .cons rfl .nil
  have q2 : sp ([V.ref a] ++ dvs) H1 Q (E σ) := q
  exact PySem.W.callWith_K0 (first := [.ref a]) I1.kIn hm.kp (run_fnG F hgu hr (hx σ) I1 (bind_of F hb hd r2 I1.kIn q2) (r2.append hd) q2)
def gMake (C : Addr) (sp : Sp) (dvs : List V) (E : L2.St → XK) (t : TA) : TE := fun σ H Q => t σ H fun vs H1 => ∀ x dx, H1 x = none → H1 dx = none → dx ≠ x →
  sp (.ref x :: (vs ++ dvs)) (upd (upd H1 dx (.own x)) x (.ins C dx [])) (fun v H2 => v = .non ∧ Q (.ref x) H2) (E σ)
theorem make_guards {A : Around} {C : Addr} {us : List Value} {kw : List (Str × Value)} (h : A.guards = some []) : (A.under (.builtin "type.__call__" ⟨.ref C :: us, kw⟩)).guards = some [] := by
  simp [Around.under, Code.guards, Code.isGuard, guardIds, pushGuards, h]
theorem run_makeG {pins : List (Addr × Obj)} {σ : L2.St} {H : Hp} {s : Shared} {Q : VK} {us : List Value} {kw : List (Str × Value)} (M : Mk X.K C f) (F : FnG X.prog X.w X.K X.mg X.base k f ps sp) (hgu : X.A.guards = some []) (hr : Room (k + 1) X.A)
    (hx : PassG X σ (E σ)) (I : Inv X pins σ H s) (zs : V → List V) (ws : Value → List Value) (hb : ∀ (y : Addr) (s' : Shared), X.K.In s'.heap → BindsTo s' (fdOf X.K f) ⟨Value.ref y :: us, kw⟩ (ps.zip (ws (.ref y)))) (r : ∀ y, Vals (zs (.ref y)) (ws (.ref y)))
    (h : ∀ x dx, H x = none → H dx = none → dx ≠ x → sp (zs (.ref x)) (upd (upd H dx (.own x)) x (.ins C dx [])) (fun v H2 => v = .non ∧ Q (.ref x) H2) (E σ)) :
    wpAny (model X.prog X.w) X.A (call (.ref C) us kw) (EP X pins σ Q) X.xe s := by
  have hq := h (s.heap.objs.size + 1) s.heap.objs.size (I.hok.fresh (Nat.le_succ _)) (I.hok.fresh (Nat.le_refl _)) (Nat.ne_of_lt (Nat.lt_succ_self _))
  have I2 := Inv.made (C := C) I
  refine wpAny_call (make_map (f := f) I.kIn M.makes M.init (beq_iff_eq.mp M.fn) (codeAny_mono (F.run _ X.stack _ _ ⟨Value.ref (s.heap.objs.size + 1) :: us, kw⟩ _ _ _ (E σ) (make_guards hgu) (hr.make C us kw)
    (I2.env0.make C us kw) (hb _ _ I2.kIn) (r _) hq) fun r s' hq' => ?_))
  cases r with
  | error e => exact hx pins _ _ e s' I2 hq'
  | ok fl =>
    cases fl with
    | ret u =>
      obtain ⟨v, H', I3, rv, ev, q3⟩ := I2.after hq'
      subst ev
      exact ⟨rv, ⟨V.ref (s.heap.objs.size + 1), H', I3, rfl, q3⟩⟩
    | next => exact False.elim hq'
    | brk => exact False.elim hq'
    | cont => exact False.elim hq'
end
end Wk
set_option maxRecDepth 100000
set_option maxHeartbeats 4000000
namespace Wk
open PySem PySem.Spec PyProof.Rows L2
def kD : Key → PyData
  | .inl i => .int i
  | .inr x => .str x
mutual
/-- the value v stands for the tree -/
inductive Rep (H : Hp) : V → PyData → Prop
  | non : Rep H .non .none
  | bl (b : Bool) : Rep H (.bl b) (.bool b)
  | int (i : Int) : Rep H (.int i) (.int i)
  | str (x : Str) : Rep H (.str x) (.str x)
  | lst {a : Addr} {vs : List V} {ds : List PyData} : H a = some (.lst vs) → RepL H vs ds → Rep H (.ref a) (.list ds)
  | tup {a : Addr} {vs : List V} {ds : List PyData} : H a = some (.tup vs) → RepL H vs ds → Rep H (.ref a) (.tuple ds)
  | dict {a : Addr} {kvs : List (Key × V)} {ds : List (PyData × PyData)} : H a = some (.dK kvs) → RepK H kvs ds → Rep H (.ref a) (.dict ds)
inductive RepL (H : Hp) : List V → List PyData → Prop
  | nil : RepL H [] []
  | cons {v : V} {vs : List V} {d : PyData} {ds : List PyData} : Rep H v d → RepL H vs ds → RepL H (v :: vs) (d :: ds)
inductive RepK (H : Hp) : List (Key × V) → List (PyData × PyData) → Prop
  | nil : RepK H [] []
  | cons {k : Key} {v : V} {kvs : List (Key × V)} {d : PyData} {ds : List (PyData × PyData)} : Rep H v d → RepK H kvs ds → RepK H ((k, v) :: kvs) ((kD k, d) :: ds)
end
mutual
theorem Rep.mono {H H' : Hp} (e : Ex H H') : ∀ {v : V} {d : PyData}, Rep H v d → Rep H' v d
  | _, _, .non => .non
  | _, _, .bl b => .bl b
  | _, _, .int i => .int i
  | _, _, .str x => .str x
  | _, _, .lst h l => .lst (e _ _ h) (RepL.mono e l)
  | _, _, .tup h l => .tup (e _ _ h) (RepL.mono e l)
  | _, _, .dict h l => .dict (e _ _ h) (RepK.mono e l)
theorem RepL.mono {H H' : Hp} (e : Ex H H') : ∀ {vs : List V} {ds : List PyData}, RepL H vs ds → RepL H' vs ds
  | _, _, .nil => .nil
  | _, _, .cons h l => .cons (Rep.mono e h) (RepL.mono e l)
theorem RepK.mono {H H' : Hp} (e : Ex H H') : ∀ {vs : List (Key × V)} {ds : List (PyData × PyData)}, RepK H vs ds → RepK H' vs ds
  | _, _, .nil => .nil
  | _, _, .cons h l => .cons (Rep.mono e h) (RepK.mono e l)
end
theorem HI.rep {H D : Hp} {R : List (Addr × HO)} {v : V} {d : PyData} (h : HI H R D) (r : Rep D v d) : Rep H v d := r.mono h.sub
theorem RepL.length {H : Hp} : ∀ {vs : List V} {ds : List PyData}, RepL H vs ds → vs.length = ds.length
  | _, _, .nil => rfl
  | _, _, .cons _ l => congrArg Nat.succ (RepL.length l)
theorem RepL.get {H : Hp} : ∀ {vs : List V} {ds : List PyData} {i : Nat} {v : V}, RepL H vs ds → vs[i]? = some v → ∃ d, ds[i]? = some d ∧ Rep H v d
  | _, _, _, _, .nil, e => by simp at e
  | _, _, 0, _, .cons h _, e => by
    simp at e
    subst e
    exact ⟨_, rfl, h⟩
  | _, _, i + 1, _, .cons _ l, e => by
    obtain ⟨d, h1, h2⟩ := RepL.get (i := i) l (by simpa using e)
    exact ⟨d, by simpa using h1, h2⟩
theorem RepL.getD {H : Hp} : ∀ {vs : List V} {ds : List PyData} {i : Nat} {d : PyData}, RepL H vs ds → ds[i]? = some d → ∃ v, vs[i]? = some v ∧ Rep H v d
  | _, _, _, _, .nil, e => by simp at e
  | _, _, 0, _, .cons h _, e => by
    simp at e
    subst e
    exact ⟨_, rfl, h⟩
  | _, _, i + 1, _, .cons _ l, e => by
    obtain ⟨d, h1, h2⟩ := RepL.getD (i := i) l (by simpa using e)
    exact ⟨d, by simpa using h1, h2⟩
theorem RepL.append {H : Hp} : ∀ {vs ws : List V} {ds es : List PyData}, RepL H vs ds → RepL H ws es → RepL H (vs ++ ws) (ds ++ es)
  | _, _, _, _, .nil, r => r
  | _, _, _, _, .cons h l, r => .cons h (RepL.append l r)
theorem RepL.take {H : Hp} : ∀ {vs : List V} {ds : List PyData} (n : Nat), RepL H vs ds → RepL H (vs.take n) (ds.take n)
  | _, _, 0, _ => .nil
  | _, _, _ + 1, .nil => .nil
  | _, _, n + 1, .cons h l => .cons h (RepL.take n l)
theorem RepL.drop {H : Hp} : ∀ {vs : List V} {ds : List PyData} (n : Nat), RepL H vs ds → RepL H (vs.drop n) (ds.drop n)
  | _, _, 0, r => r
  | _, _, _ + 1, .nil => .nil
  | _, _, n + 1, .cons _ l => RepL.drop n l
theorem RepL.snoc {H : Hp} {vs : List V} {ds : List PyData} {v : V} {d : PyData} (l : RepL H vs ds) (h : Rep H v d) : RepL H (vs ++ [v]) (ds ++ [d]) := l.append (.cons h .nil)
section
variable {X : Cx} {pins : List (Addr × Obj)} {σ : L2.St} {H : Hp} {s : Shared}
/-- the written part holds the table of modules -/
def HasSys (K : PySem.W.Frag) : Prop := ∃ o, K.lookup sysModules = some o
theorem not_sys (I : Inv X pins σ H s) (hs : HasSys X.K) {a : Addr} {o : HO} (h : H a = some o) : a ≠ sysModules := fun e => by
  obtain ⟨ob, ho⟩ := hs
  have z := (I.bs sysModules ob (I.ok.mod.kin _ _ ho)).2
  rw [e, z] at h
  cases h
theorem reads_kd {h : Heap} : ∀ {k : Key} {u : Value}, keyIs k u = true → ∃ as, Reads h u (kD k) as ∧ sysModules ∉ as
  | .inl i, u, e => by
    obtain ⟨t, rfl⟩ := Value.isInt_shape (k := i) (v := u) e
    exact ⟨_, Reads.int i t, by simp⟩
  | .inr x, u, e => by
    obtain ⟨t, rfl⟩ := Value.isStrOf_shape (x := x) (v := u) e
    exact ⟨_, Reads.str x t, by simp⟩
mutual
theorem Rep.reads (I : Inv X pins σ H s) (hs : HasSys X.K) : ∀ {v : V} {d : PyData} {u : Value}, Rep H v d → RelV v u → ∃ as, Reads s.heap u d as ∧ sysModules ∉ as
  | _, _, _, .non, r => by
    cases r
    exact ⟨_, Reads.none, by simp⟩
  | _, _, _, .bl b, r => by
    cases r
    exact ⟨_, Reads.bool b, by simp⟩
  | _, _, _, .int i, r => by
    obtain ⟨t, rfl⟩ := r
    exact ⟨_, Reads.int i t, by simp⟩
  | _, _, _, .str x, r => by
    obtain ⟨t, rfl⟩ := r
    exact ⟨_, Reads.str x t, by simp⟩
  | _, _, _, .lst h l, r => by
    cases r
    obtain ⟨its, rv, ⟨o, n, ho, hc, _, hd⟩, _⟩ := I.list (SqL.of h)
    obtain ⟨as, hr, hn⟩ := RepL.reads I hs l rv
    exact ⟨_, Reads.list ho hc hd hr, by
      rw [List.mem_cons]
      exact not_or.mpr ⟨(not_sys I hs h).symm, hn⟩⟩
  | _, _, _, .tup h l, r => by
    cases r
    obtain ⟨its, rv, ⟨o, ho, hc, n, hd⟩, _⟩ := I.tuple (SqT.of h)
    obtain ⟨as, hr, hn⟩ := RepL.reads I hs l rv
    exact ⟨_, Reads.tuple ho hc hd hr, hn⟩
  | _, _, _, .dict h l, r => by
    cases r
    obtain ⟨_, _, vs, rv, o, es, ep, ho, hx, hd, _, hp, _⟩ := I.hok _ _ h
    obtain ⟨as, bs, h1, h2, n1, n2⟩ := RepK.reads I hs l rv hp
    exact ⟨_, Reads.dict ho hx.1 hd h1 h2, by
      rw [List.cons_append, List.mem_cons, List.mem_append]
      exact not_or.mpr ⟨(not_sys I hs h).symm, not_or.mpr ⟨n1, n2⟩⟩⟩
theorem RepL.reads (I : Inv X pins σ H s) (hs : HasSys X.K) : ∀ {vs : List V} {ds : List PyData} {us : List Value}, RepL H vs ds → Vals vs us → ∃ as, ReadsAll s.heap us ds as ∧ sysModules ∉ as
  | _, _, _, .nil, r => by
    cases r
    exact ⟨_, ReadsAll.nil, by simp⟩
  | _, _, _, .cons h l, r => by
    cases r with
    | cons r1 r2 =>
      obtain ⟨as, q1, n1⟩ := Rep.reads I hs h r1
      obtain ⟨bs, q2, n2⟩ := RepL.reads I hs l r2
      exact ⟨_, ReadsAll.cons q1 q2, by
        rw [List.mem_append]
        exact not_or.mpr ⟨n1, n2⟩⟩
theorem RepK.reads (I : Inv X pins σ H s) (hs : HasSys X.K) : ∀ {kvs : List (Key × V)} {ds : List (PyData × PyData)} {us : List (Key × Value)} {es : List DictEntry}, RepK H kvs ds → KV kvs us → Pairs (mixKind X.prog X.w) es us →
    ∃ as bs, ReadsAll s.heap (es.map (·.key)) (ds.map (·.1)) as ∧ ReadsAll s.heap (es.map (·.val)) (ds.map (·.2)) bs ∧ sysModules ∉ as ∧ sysModules ∉ bs
  | _, _, _, _, .nil, r, p => by
    cases r
    cases p
    exact ⟨_, _, ReadsAll.nil, ReadsAll.nil, by simp, by simp⟩
  | _, _, _, _, .cons h l, r, p => by
    cases r with
    | cons r1 r2 =>
      cases p with
      | cons p1 p2 p3 =>
        obtain ⟨e1, e2⟩ := r1
        obtain ⟨as, bs, q1, q2, n1, n2⟩ := RepK.reads I hs l r2 p3
        rw [← e1] at p1
        obtain ⟨a1, g1, m1⟩ := reads_kd (h := s.heap) (show keyIs _ _ = true from p1)
        rw [← p2] at e2
        obtain ⟨a2, g2, m2⟩ := Rep.reads I hs h e2
        exact ⟨_, _, ReadsAll.cons g1 q1, ReadsAll.cons g2 q2, by
          rw [List.mem_append]
          exact not_or.mpr ⟨m1, n1⟩, by
          rw [List.mem_append]
          exact not_or.mpr ⟨m2, n2⟩⟩
end
end
/-- repr(x) -/
def rRepr : List V → Hp → VK → Prop := fun xs H Q => ∃ x d, xs = [x] ∧ Rep H x d ∧ d.showable = true ∧ d.shown.length ≤ sizeLine ∧ d.depth ≤ 60 ∧ Q (.str d.shown) H
theorem call_repr {X : Cx} {k : Nat} (hgu : X.A.guards = some []) (hr : Room k X.A) (hs : HasSys X.K) : CallR X (.builtin "repr") rRepr := by
  intro pins s σ H xs us Q I r h
  obtain ⟨x, d, rfl, hx, h1, h2, h3, q⟩ := h
  obtain ⟨u, rfl, ru⟩ := vals1 r
  have hu := hr.units
  have fin : ∀ h' t tk, (∀ b o, s.heap.get? b = some o → h'.get? b = some o) → EP X pins σ Q (.str d.shown t) { s with heap := h', toks := tk } := fun h' t tk k => ⟨.str d.shown, H, I.kept k, ⟨_, rfl⟩, q⟩
  cases hx with
  | non => cases ru; exact P.repr_of_none (fin s.heap _ _ fun _ _ e => e)
  | bl b => cases ru; exact P.repr_of_bool (fin s.heap _ _ fun _ _ e => e)
  | int i =>
    obtain ⟨t, rfl⟩ := ru
    exact P.repr_of_int (by simpa [PyData.showable] using h1) (fin s.heap _ _ fun _ _ e => e)
  | str z =>
    obtain ⟨t, rfl⟩ := ru
    exact P.repr_of_str (fin s.heap _ _ fun _ _ e => e) h2
  | lst e l =>
    obtain ⟨as, hrd, hn⟩ := Rep.reads I hs (.lst e l) ru
    cases ru
    exact repr_of_reads' hrd h1 (fun _ => hn) hgu (by omega) (fun _ _ e => e) (fun h' u tk k => fin h' u tk k) h2
  | tup e l =>
    obtain ⟨as, hrd, hn⟩ := Rep.reads I hs (.tup e l) ru
    cases ru
    exact repr_of_reads' hrd h1 (fun _ => hn) hgu (by omega) (fun _ _ e => e) (fun h' u tk k => fin h' u tk k) h2
  | dict e l =>
    obtain ⟨as, hrd, hn⟩ := Rep.reads I hs (.dict e l) ru
    cases ru
    exact repr_of_reads' hrd h1 (fun _ => hn) hgu (by omega) (fun _ _ e => e) (fun h' u tk k => fin h' u tk k) h2
end Wk
set_option maxRecDepth 100000
set_option maxHeartbeats 4000000
namespace Wk
open PySem PySem.Spec PyProof.Rows L2
inductive RAdd : V → V → Hp → VK → Prop
  | int {i j : Int} {H : Hp} {Q : VK} : Q (.int (i + j)) H → RAdd (.int i) (.int j) H Q
  | str {a b : Str} {H : Hp} {Q : VK} : a.length + b.length ≤ sizeLine → Q (.str (a ++ b)) H → RAdd (.str a) (.str b) H Q
  | lst {p q : Addr} {xs ys : List V} {H : Hp} {Q : VK} : H p = some (.lst xs) → H q = some (.lst ys) → xs.length + ys.length ≤ sizeLine → AlD (.lst (xs ++ ys)) H Q → RAdd (.ref p) (.ref q) H Q
  | tup {p q : Addr} {xs ys : List V} {H : Hp} {Q : VK} : H p = some (.tup xs) → H q = some (.tup ys) → xs ≠ [] → ys ≠ [] → xs.length + ys.length ≤ sizeLine → AlD (.tup (xs ++ ys)) H Q → RAdd (.ref p) (.ref q) H Q
  | tup0 {p q : Addr} {xs : List V} {H : Hp} {Q : VK} : H p = some (.tup xs) → H q = some (.tup []) → xs ≠ [] → xs.length ≤ sizeLine → Q (.ref p) H → RAdd (.ref p) (.ref q) H Q
section
variable {X : Cx}
theorem op_addU : OpR X (binaryOp .Add) (RAdd) := by
  intro pins s σ H x y v u Q I rx ry h
  cases h with
  | int q => exact op_add pins s σ H _ _ v u Q I rx ry ⟨_, _, rfl, rfl, q⟩
  | str hl q => exact op_add_str pins s σ H _ _ v u Q I rx ry ⟨_, _, rfl, rfl, hl, q⟩
  | lst h1 h2 hl q => exact op_cat pins s σ H _ _ v u Q I rx ry ⟨_, _, _, _, rfl, rfl, h1, h2, hl, q⟩
  | tup h1 h2 n1 n2 hl q => exact op_catT pins s σ H _ _ v u Q I rx ry ⟨_, _, _, _, rfl, rfl, SqT.of h1, SqT.of h2, n1, hl, fun e => absurd e n2, fun _ => q⟩
  | tup0 h1 h2 n1 hl q => exact op_catT pins s σ H _ _ v u Q I rx ry ⟨_, _, _, _, rfl, rfl, SqT.of h1, SqT.of h2, n1, hl, fun _ => q, fun n => absurd rfl n⟩
end
/-- a text, written n times -/
def strRep (a : Str) (n : Nat) : Str := ⟨(List.replicate n a.cps).foldl (· ++ ·) #[]⟩
inductive RMul : V → V → Hp → VK → Prop
  | str {a : Str} {k : Int} {H : Hp} {Q : VK} : 1 ≤ a.length → a.length ≤ 1000 → 1 ≤ k → k ≤ 1000 → Q (.str (strRep a k.toNat)) H → RMul (.str a) (.int k) H Q
  | int {i j : Int} {H : Hp} {Q : VK} : CMul i j → Q (.int (i * j)) H → RMul (.int i) (.int j) H Q
  | lst {p : Addr} {k : Int} {xs : List V} {H : Hp} {Q : VK} : H p = some (.lst xs) → -(2 ^ 63) ≤ k → k < 2 ^ 63 → xs.length * k.toNat ≤ sizeLine → AlD (.lst (List.replicate k.toNat xs).flatten) H Q → RMul (.ref p) (.int k) H Q
inductive RMulM : V → V → Hp → VK → Prop
  | lst {p : Addr} {k : Int} {xs : List V} {H : Hp} {Q : VK} : H p = some (.lst xs) → -(2 ^ 63) ≤ k → k < 2 ^ 63 → xs.length * k.toNat ≤ sizeLine → AlM (.lst (List.replicate k.toNat xs).flatten) H Q → RMulM (.ref p) (.int k) H Q
section
variable {X : Cx}
theorem op_mulU : OpR X (binaryOp .Mult) (RMul) := by
  intro pins s σ H x y v u Q I rx ry h
  cases h with
  | @str a k _ _ a0 a1 k0 k1 q =>
    obtain ⟨t, rfl⟩ := rx
    obtain ⟨t', rfl⟩ := ry
    have e1 : decide (k < -(2 ^ 63 : Int)) = false := decide_eq_false (by omega)
    have e2 : decide (k ≥ 2 ^ 63) = false := decide_eq_false (by omega)
    have hm : a.length * k.toNat ≤ 1000 * 1000 := Nat.mul_le_mul a1 (by omega)
    refine PySem.P.mul_str (by rw [e1, e2]; rfl) (fun _ _ => ?_) (fun _ _ => ?_) ?_
    · have : (1000 : Int) ≤ (2 ^ 63 - 1) / k := by
        refine Int.le_ediv_of_mul_le (by omega) ?_
        have : 1000 * k ≤ 1000 * 1000 := by omega
        omega
      omega
    · show decide (a.length * k.toNat > sizeLine) = false
      rw [sizeLine_eq]
      exact decide_eq_false (by omega)
    · rw [if_neg (by omega)]
      by_cases h1 : k = 1
      · subst h1
        have e : strRep a (Int.toNat 1) = a := by
          show (⟨#[] ++ a.cps⟩ : Str) = a
          obtain ⟨x⟩ := a
          simp
        rw [e] at q
        exact ⟨.str a, H, I, ⟨t, rfl⟩, q⟩
      · have e3 : (k == 1 || a.length == 0) = false := by
          rw [Bool.or_eq_false_iff]
          exact ⟨beq_eq_false_iff_ne.mpr h1, beq_eq_false_iff_ne.mpr (by omega)⟩
        rw [e3]
        have hl : (strRep a k.toNat).length ≤ sizeLine := by
          have : ∀ (n : Nat) (acc : Array Nat), ((List.replicate n a.cps).foldl (· ++ ·) acc).size = acc.size + a.length * n := by
            intro n
            induction n with
            | zero => intro acc; simp
            | succ n ih =>
              intro acc
              rw [List.replicate_succ, List.foldl_cons, ih, Array.size_append, Nat.mul_succ]
              have : a.cps.size = a.length := rfl
              omega
          show ((List.replicate k.toNat a.cps).foldl (· ++ ·) #[]).size ≤ sizeLine
          rw [this, sizeLine_eq]
          simp
          omega
        exact ⟨hl, .str _, H, I.tok _, ⟨_, rfl⟩, q⟩
  | int hc q => exact op_mul pins s σ H _ _ v u Q I rx ry ⟨_, _, rfl, rfl, hc, q⟩
  | lst h1 h2 h3 hl q => exact op_rep pins s σ H _ _ v u Q I rx ry ⟨_, _, _, rfl, rfl, h1, h2, h3, hl, q⟩
theorem op_mulUM : OpR X (binaryOp .Mult) (RMulM) := by
  intro pins s σ H x y v u Q I rx ry h
  cases h with
  | lst h1 h2 h3 hl q => exact op_rep pins s σ H _ _ v u Q I rx ry ⟨_, _, _, rfl, rfl, h1, h2, h3, hl, q⟩
end
mutual
theorem Rep.dp {K : PySem.W.Frag} {H : Hp} : ∀ {v : V} {d : PyData}, Rep H v d → d.hasDict = false → Dp K H v d
  | _, _, .non, _ => .non
  | _, _, .bl b, _ => .bl b
  | _, _, .int i, _ => .int i
  | _, _, .str x, _ => .str x
  | _, _, .lst h l, n => .lst (SqL.of h) (RepL.dp l (by simpa [PyData.hasDict] using n))
  | _, _, .tup h l, n => .tup (SqT.of h) (RepL.dp l (by simpa [PyData.hasDict] using n))
  | _, _, .dict h l, n => by simp [PyData.hasDict] at n
theorem RepL.dp {K : PySem.W.Frag} {H : Hp} : ∀ {vs : List V} {ds : List PyData}, RepL H vs ds → PyData.hasDictAll ds = false → DpAll K H vs ds
  | _, _, .nil, _ => .nil
  | _, _, .cons h l, n => by
    simp only [PyData.hasDictAll, Bool.or_eq_false_iff] at n
    exact .cons (Rep.dp h n.1) (RepL.dp l n.2)
end
inductive REq (neg : Bool) : V → V → Hp → VK → Prop
  | scal {x y : V} {H : Hp} {Q : VK} : scal x y = true → Q (.bl (if neg then !decide (x = y) else decide (x = y))) H → REq neg x y H Q
  | dat {x y : V} {d e : PyData} {H : Hp} {Q : VK} : Rep H x d → Rep H y e → d.hasDict = false → e.hasDict = false → SeqAt.shaped d = true → SeqAt.shaped e = true → Q (.bl (if neg then !PyData.eqv d e else PyData.eqv d e)) H → REq neg x y H Q
section
variable {X : Cx}
theorem op_eqU (hu : X.A.units + 64 < cLine) : OpR X (compareOp .Eq) (REq false) := by
  intro pins s σ H x y v u Q I rx ry h
  cases h with
  | scal h1 q => exact op_eq pins s σ H _ _ v u Q I rx ry ⟨h1, q⟩
  | dat h1 h2 n1 n2 s1 s2 q => exact op_eqD hu pins s σ H _ _ v u Q I rx ry ⟨_, _, h1.dp n1, h2.dp n2, s1, s2, q⟩
theorem op_neU (hu : X.A.units + 64 < cLine) : OpR X (compareOp .NotEq) (REq true) := by
  intro pins s σ H x y v u Q I rx ry h
  cases h with
  | scal h1 q => exact op_ne pins s σ H _ _ v u Q I rx ry ⟨h1, q⟩
  | dat h1 h2 n1 n2 s1 s2 q => exact op_neD hu pins s σ H _ _ v u Q I rx ry ⟨_, _, h1.dp n1, h2.dp n2, s1, s2, q⟩
end
inductive RIn (neg : Bool) : V → V → Hp → VK → Prop
  | sign {c : Nat} {z : Str} {H : Hp} {Q : VK} : Q (.bl (if neg then !decide (c ∈ z.cps.toList) else decide (c ∈ z.cps.toList))) H → RIn neg (.str ⟨#[c]⟩) (.str z) H Q
  | lst {x : V} {p : Addr} {xs : List V} {H : Hp} {Q : VK} : H p = some (.lst xs) → flatV x = true → xs.all flatV = true → Q (.bl (if neg then !inV x xs else inV x xs)) H → RIn neg x (.ref p) H Q
section
variable {X : Cx}
theorem op_inU : OpR X (compareOp .In) (RIn false) := by
  intro pins s σ H x y v u Q I rx ry h
  cases h with
  | sign q => exact op_in_sign pins s σ H _ _ v u Q I rx ry ⟨_, _, rfl, rfl, q⟩
  | lst h1 h2 h3 q => exact op_in_seq pins s σ H _ _ v u Q I rx ry ⟨_, _, rfl, .inl (SqL.of h1), h2, h3, q⟩
end
theorem is_bl_rel {prog : Program} {w : World} {A : Around} {E : Value → Shared → Prop} {s : Shared} {x : V} {v : Value} {b : Bool} {Q : Value → Shared → Prop} (r : RelV x v) (h : Q (.bool (decide (x = .bl b))) s) : wpAny (model prog w) A (compareOp .Is v (.bool b)) Q E s := by
  cases x with
  | non => cases r; exact wpAny_pure (a := Value.bool false) (by simpa using h)
  | bl c =>
    cases r
    refine is_bool ?_
    rw [show (c == b) = decide (V.bl c = .bl b) from dec_bl.symm]
    exact h
  | int _ => obtain ⟨t, rfl⟩ := r; exact wpAny_pure (a := Value.bool false) (by simpa using h)
  | str _ => obtain ⟨t, rfl⟩ := r; exact wpAny_pure (a := Value.bool false) (by simpa using h)
  | byt _ => obtain ⟨t, rfl⟩ := r; exact wpAny_pure (a := Value.bool false) (by simpa using h)
  | flt _ => obtain ⟨t, rfl⟩ := r; exact wpAny_pure (a := Value.bool false) (by simpa using h)
  | ref _ => cases r; exact wpAny_pure (a := Value.bool false) (by simpa using h)
  | ty _ => cases r; exact wpAny_pure (a := Value.bool false) (by simpa using h)
theorem isn_bl_rel {prog : Program} {w : World} {A : Around} {E : Value → Shared → Prop} {s : Shared} {x : V} {v : Value} {b : Bool} {Q : Value → Shared → Prop} (r : RelV x v) (h : Q (.bool (!decide (x = .bl b))) s) : wpAny (model prog w) A (compareOp .IsNot v (.bool b)) Q E s := by
  cases x with
  | non => cases r; exact wpAny_pure (a := Value.bool true) (by simpa using h)
  | bl c =>
    cases r
    refine isnot_bool ?_
    rw [show (c != b) = !decide (V.bl c = .bl b) from congrArg not dec_bl.symm]
    exact h
  | int _ => obtain ⟨t, rfl⟩ := r; exact wpAny_pure (a := Value.bool true) (by simpa using h)
  | str _ => obtain ⟨t, rfl⟩ := r; exact wpAny_pure (a := Value.bool true) (by simpa using h)
  | byt _ => obtain ⟨t, rfl⟩ := r; exact wpAny_pure (a := Value.bool true) (by simpa using h)
  | flt _ => obtain ⟨t, rfl⟩ := r; exact wpAny_pure (a := Value.bool true) (by simpa using h)
  | ref _ => cases r; exact wpAny_pure (a := Value.bool true) (by simpa using h)
  | ty _ => cases r; exact wpAny_pure (a := Value.bool true) (by simpa using h)
inductive RIs (neg : Bool) : V → V → Hp → VK → Prop
  | non {x : V} {H : Hp} {Q : VK} : Q (.bl (if neg then !decide (x = .non) else decide (x = .non))) H → RIs neg x .non H Q
  | bl {x : V} {b : Bool} {H : Hp} {Q : VK} : Q (.bl (if neg then !decide (x = .bl b) else decide (x = .bl b))) H → RIs neg x (.bl b) H Q
section
variable {X : Cx}
theorem op_isU : OpR X (compareOp .Is) (RIs false) := by
  intro pins s σ H x y v u Q I rx ry h
  cases h with
  | non q => exact op_isN pins s σ H _ _ v u Q I rx ry ⟨rfl, q⟩
  | bl q =>
    cases ry
    exact is_bl_rel rx ⟨.bl _, H, I, rfl, q⟩
theorem op_isnU : OpR X (compareOp .IsNot) (RIs true) := by
  intro pins s σ H x y v u Q I rx ry h
  cases h with
  | non q => exact op_notN pins s σ H _ _ v u Q I rx ry ⟨rfl, q⟩
  | bl q =>
    cases ry
    exact isn_bl_rel rx ⟨.bl _, H, I, rfl, q⟩
end
inductive RLen : List V → Hp → VK → Prop
  | str {z : Str} {H : Hp} {Q : VK} : z.length ≤ sizeLine → Q (.int z.length) H → RLen [.str z] H Q
  | lst {p : Addr} {xs : List V} {H : Hp} {Q : VK} : H p = some (.lst xs) → Q (.int xs.length) H → RLen [.ref p] H Q
  | tup {p : Addr} {xs : List V} {H : Hp} {Q : VK} : H p = some (.tup xs) → Q (.int xs.length) H → RLen [.ref p] H Q
  | dict {p : Addr} {xs : List (Key × V)} {H : Hp} {Q : VK} : H p = some (.dK xs) → Q (.int xs.length) H → RLen [.ref p] H Q
  | frz {p : Addr} {o : Obj} {xs : List V} {H : Hp} {Q : VK} : H p = some (.frz o (.lst xs)) → Q (.int xs.length) H → RLen [.ref p] H Q
theorem call_lenU {X : Cx} : CallR X (.builtin "len") RLen := by
  intro pins s σ H xs us Q I r h
  cases h with
  | str h1 q => exact call_len_str pins s σ H _ us Q I r ⟨_, rfl, h1, q⟩
  | lst h1 q => exact call_len_seq pins s σ H _ us Q I r ⟨_, _, rfl, .inl (SqL.of h1), q⟩
  | tup h1 q => exact call_len_seq pins s σ H _ us Q I r ⟨_, _, rfl, .inr (SqT.of h1), q⟩
  | dict h1 q => exact call_lenD pins s σ H _ us Q I r ⟨_, _, rfl, h1, q⟩
  | frz h1 q => exact call_len_seq pins s σ H _ us Q I r ⟨_, _, rfl, .inl (.inl (.inr ⟨_, h1⟩)), q⟩
inductive RSl : V → Option Int → Option Int → Hp → VK → Prop
  | str {z : Str} {lo hi : Option Int} {H : Hp} {Q : VK} : z.length ≤ sizeLine → Q (.str (cutS z lo hi)) H → RSl (.str z) lo hi H Q
  | lst {p : Addr} {xs : List V} {lo hi : Option Int} {H : Hp} {Q : VK} : H p = some (.lst xs) → AlD (.lst (cutV xs lo hi)) H Q → RSl (.ref p) lo hi H Q
section
variable {X : Cx}
theorem sl_U : SlR X (RSl) := by
  intro pins s σ H x v lo hi vl vu sl Q I rx hs h1 h2 h
  cases h with
  | str hz q => exact sl_str pins s σ H _ v _ _ vl vu sl Q I rx hs h1 h2 ⟨_, rfl, hz, q⟩
  | lst hl q => exact sl_list pins s σ H _ v _ _ vl vu sl Q I rx hs h1 h2 ⟨_, _, rfl, SqL.of hl, q⟩
theorem pe_lstM {es : List Expr} {t : TA} {pos : Pos} (h : PA X es t) : PE X (.List es pos) (tLstM t) := pe_lst h
end
theorem cdiv_of {i j : Int} (h0 : 0 < j) (h1 : j < 2 ^ 100) : CDivW i j := wide_div (b := 100) h0 (by omega) (by decide) (by decide)
theorem mod_let {i j : Int} {H : Hp} {Q : VK} (h : 0 < j) (k : ∀ r, 0 ≤ r → r < j → Q (.int r) H) : rI (fun _ j => 0 < j) (fun i j => .int (i % j)) (.int i) (.int j) H Q :=
  ⟨i, j, rfl, rfl, h, k _ (Int.emod_nonneg _ (by omega)) (Int.emod_lt_of_pos _ h)⟩
theorem pow_ok {r c z d : Int} (h1 : 0 ≤ r) (h2 : r < 2147483648) (h3 : 0 ≤ c) (h4 : c ≤ 200000) (h5 : 0 ≤ z) (h6 : z ≤ 1000001) (h7 : 0 ≤ d) (h8 : d ≤ 1000) : (r / 8 + c * z * z + d).natAbs < 2 ^ 64 := by
  have a1 : z * z ≤ 1000001 * 1000001 := Int.mul_le_mul h6 h6 h5 (by omega)
  have a2 : 0 ≤ z * z := Int.mul_nonneg h5 h5
  have a3 : c * (z * z) ≤ 200000 * (1000001 * 1000001) := Int.mul_le_mul h4 a1 a2 (by omega)
  have a4 : 0 ≤ c * (z * z) := Int.mul_nonneg h3 a2
  rw [Int.mul_assoc]
  omega
inductive RIx : V → V → Hp → VK → Prop
  | l {p : Addr} {xs : List V} {i : Int} {v : V} {H : Hp} {Q : VK} : H p = some (.lst xs) → atI xs i = some v → Q v H → RIx (.ref p) (.int i) H Q
  | t {p : Addr} {xs : List V} {i : Int} {v : V} {H : Hp} {Q : VK} : H p = some (.tup xs) → atI xs i = some v → Q v H → RIx (.ref p) (.int i) H Q
  | f {p : Addr} {o : Obj} {xs : List V} {i : Int} {v : V} {H : Hp} {Q : VK} : H p = some (.frz o (.lst xs)) → atI xs i = some v → Q v H → RIx (.ref p) (.int i) H Q
  | s {z : Str} {i : Int} {c : Nat} {H : Hp} {Q : VK} : z.length ≤ sizeLine → atI z.cps.toList i = some c → Q (.str ⟨#[c]⟩) H → RIx (.str z) (.int i) H Q
theorem ix_U {X : Cx} : IxR X RIx := by
  intro a b pins s σ H x y v u Q I rx ry h hs
  cases h with
  | l e1 e2 q => exact ix_seq a b pins s σ H _ _ v u Q I rx ry (.inl ⟨_, _, _, _, rfl, rfl, SqL.of e1, e2, q⟩) hs
  | t e1 e2 q => exact ix_seq a b pins s σ H _ _ v u Q I rx ry (.inr (.inl ⟨_, _, _, _, rfl, rfl, SqT.of e1, e2, q⟩)) hs
  | f e1 e2 q => exact ix_seq a b pins s σ H _ _ v u Q I rx ry (.inl ⟨_, _, _, _, rfl, rfl, .inl (.inr ⟨_, e1⟩), e2, q⟩) hs
  | s e1 e2 q => exact ix_seq a b pins s σ H _ _ v u Q I rx ry (.inr (.inr ⟨_, _, _, rfl, rfl, e1, e2, q⟩)) hs
theorem setL {p : Addr} {xs : List V} {k : Int} {j : Nat} {v : V} {H : Hp} {Q : Hp → Prop} (h : H p = some (.lst xs)) (e : ixN xs.length k = some j) (q : Q (upd H p (.lst (xs.set j v)))) : rSetL (.ref p) (.int k) v H Q := ⟨p, xs, k, j, rfl, rfl, h, e, q⟩
theorem set_c {p : Addr} {xs : List V} {R : List (Addr × HO)} {k : Int} {j : Nat} {v : V} {H D : Hp} {Q : Hp → Prop} (hi : HI H ((p, .lst xs) :: R) D) (e : ixN xs.length k = some j) (q : ∀ H', HI H' ((p, .lst (xs.set j v)) :: R) D → Q H') : rSetL (.ref p) (.int k) v H Q :=
  setL (hi.get (List.mem_cons_self ..)) e (q _ hi.set)
theorem set_c2 {p : Addr} {xs : List V} {y : Addr × HO} {R : List (Addr × HO)} {k : Int} {j : Nat} {v : V} {H D : Hp} {Q : Hp → Prop} (hi : HI H (y :: (p, .lst xs) :: R) D) (e : ixN xs.length k = some j) (q : ∀ H', HI H' (y :: (p, .lst (xs.set j v)) :: R) D → Q H') : rSetL (.ref p) (.int k) v H Q :=
  setL (hi.get (List.mem_cons_of_mem _ (List.mem_cons_self ..))) e (q _ hi.set2)
theorem set_c3 {p : Addr} {xs : List V} {y z : Addr × HO} {R : List (Addr × HO)} {k : Int} {j : Nat} {v : V} {H D : Hp} {Q : Hp → Prop} (hi : HI H (y :: z :: (p, .lst xs) :: R) D) (e : ixN xs.length k = some j) (q : ∀ H', HI H' (y :: z :: (p, .lst (xs.set j v)) :: R) D → Q H') : rSetL (.ref p) (.int k) v H Q :=
  setL (hi.get (List.mem_cons_of_mem _ (List.mem_cons_of_mem _ (List.mem_cons_self ..)))) e (q _ hi.set3)
end Wk
set_option maxRecDepth 100000
set_option maxHeartbeats 4000000
namespace Wk
open PySem PySem.Spec PyProof.Rows L2
abbrev Cells := List (Addr × HO)
/-- what a for asks of its walk -/
def ForK (J : It) (g : TG) (tb : TS) (D : Ends) (σ : L2.St) (H : Hp) : Prop := ∃ W : Nat → Nat → L2.St → Hp → Prop, (∃ m, W 0 m σ H) ∧ ∀ i m σ H, W i m σ H →
  (J.stop i H ∧ D.nx σ H) ∨ (J.go i H ∧ ∃ N : L2.St → Hp → Prop, (∀ σ' H', N σ' H' → ∃ m', m' < m ∧ W (i + 1) m' σ' H') ∧ ∀ x H', J.yld i H x H' → g x σ H' fun σ2 H2 => tb { D with nx := N, ct := N, bk := D.nx } σ2 H2)
/-- what a comprehension asks of its walk -/
def LcK (J : It) (g : TG) (tt : TT) (te : TE) (vs : List Nat) (σ : L2.St) (H1 : Hp) (Q : VK) : Prop := ∀ D, H1 D = none → ∃ W : Nat → Nat → Hp → Prop, (∃ m, W 0 m (upd H1 D (.lst []))) ∧ ∀ i m H, W i m H →
  (J.stop i H ∧ Q (.ref D) H) ∨ (J.go i H ∧ ∃ Nx : Hp → Prop, (∀ H', Nx H' → ∃ m', m' < m ∧ W (i + 1) m' H') ∧ ∀ x H', J.yld i H x H' → g x (wipe σ vs) H' fun σ2 H2 => wipe σ2 vs = wipe σ vs ∧ tt σ2 H2 fun b H3 =>
    if b = true then te σ2 H3 fun y H4 => ∃ acc, H4 D = some (.lst acc) ∧ acc.length < sizeLine ∧ Nx (upd H4 D (.lst (acc ++ [y]))) else Nx H3)
section
variable {K : PySem.W.Frag} {σ : L2.St} {H : Hp} {Q : VK} {D : Ends} {ta : TA} {te tl : TE} {tt : TT} {g : TG} {tb : TS} {wi : TI} {vs : List Nat} {R : It → Hp → Prop}
theorem st_for (h : wi σ H fun J H1 => ForK J g tb D σ H1) : tFor wi g tb D σ H := h
theorem se_lc (h : wi σ H fun J H1 => LcK J g tt te vs σ H1 Q) : tLc wi g tt te vs σ H Q := h
theorem it_rng1 (h : ta σ H fun vs H1 => ∃ j : Int, vs = [.int j] ∧ -(2 ^ 62) ≤ j ∧ j < 2 ^ 62 ∧ R (Itr 0 j.toNat) H1) : iRng1 ta σ H R := h
theorem it_rng2 (h : ta σ H fun vs H1 => ∃ i j : Int, vs = [.int i, .int j] ∧ (-(2 ^ 62) ≤ i ∧ i < 2 ^ 62 ∧ -(2 ^ 62) ≤ j ∧ j < 2 ^ 62) ∧ R (Itr i (j - i).toNat) H1) : iRng2 ta σ H R := h
theorem it_list (h : tl σ H fun x H1 => ∃ a, x = .ref a ∧ (∃ xs, SqL K H1 a xs) ∧ R (Itl K a) H1) : iList K tl σ H R := h
theorem it_str (h : tl σ H fun v H1 => ∃ x, v = .str x ∧ R (Its x) H1) : iStr tl σ H R := h
theorem rng1_mk {n : Int} {P : Int → Prop} (h1 : -(2 ^ 62) ≤ n) (h2 : n < 2 ^ 62) (q : P n) : ∃ j : Int, [V.int n] = [.int j] ∧ -(2 ^ 62) ≤ j ∧ j < 2 ^ 62 ∧ P j := ⟨n, rfl, h1, h2, q⟩
theorem rng2_mk {a b : Int} {P : Int → Int → Prop} (h1 : -(2 ^ 62) ≤ a ∧ a < 2 ^ 62 ∧ -(2 ^ 62) ≤ b ∧ b < 2 ^ 62) (q : P a b) : ∃ i j : Int, [V.int a, V.int b] = [.int i, .int j] ∧ (-(2 ^ 62) ≤ i ∧ i < 2 ^ 62 ∧ -(2 ^ 62) ≤ j ∧ j < 2 ^ 62) ∧ P i j := ⟨a, b, rfl, h1, q⟩
theorem list_mk {a : Addr} {xs : List V} {P : Addr → Prop} (h : H a = some (.lst xs)) (q : P a) : ∃ b, V.ref a = .ref b ∧ (∃ xs, SqL K H b xs) ∧ P b := ⟨a, rfl, ⟨xs, SqL.of h⟩, q⟩
theorem strI_mk {z : Str} {P : Str → Prop} (q : P z) : ∃ x, V.str z = .str x ∧ P x := ⟨z, rfl, q⟩
theorem st_yes {QB : Bool → Hp → Prop} (h : QB true H) : tYes σ H QB := h
end
/-- the next turn -/
def NX (I : Nat → L2.St → Cells → Hp → Prop) (i : Nat) : L2.St → Hp → Prop := fun σ' H' => ∃ R' D', HI H' R' D' ∧ I i σ' R' D'
section
variable {J : It} {n : Nat} {G : Hp → Prop} {Y : Nat → Hp → V → Hp → Prop} {g : TG} {tb : TS} {D : Ends} {σ : L2.St} {H D0 : Hp} {R0 : Cells} {tt : TT} {te : TE} {vs : List Nat} {Q : VK}
theorem for_hi (w : Walk J n G Y) (I : Nat → L2.St → Cells → Hp → Prop) (hi : HI H R0 D0) (h0 : I 0 σ R0 D0) (hG : ∀ i σ R Dd H, i ≤ n → HI H R Dd → I i σ R Dd → G H)
    (hs : ∀ i x σ R Dd H H', i < n → HI H R Dd → I i σ R Dd → Y i H x H' → g x σ H' fun σ2 H2 => tb { D with nx := NX I (i + 1), ct := NX I (i + 1), bk := D.nx } σ2 H2) (hd : ∀ σ R Dd H, HI H R Dd → I n σ R Dd → D.nx σ H) : ForK J g tb D σ H :=
  for_it w (NX I) ⟨R0, D0, hi, h0⟩ (fun i σ H hn ⟨R, Dd, a, b⟩ => hG i σ R Dd H hn a b) (fun i x σ H H' hn ⟨R, Dd, a, b⟩ y => hs i x σ R Dd H H' hn a b y) (fun σ H ⟨R, Dd, a, b⟩ => hd σ R Dd H a b)
/-- over a range -/
theorem for_rng {lo : Int} (I : Nat → L2.St → Cells → Hp → Prop) (hi : HI H R0 D0) (h0 : I 0 σ R0 D0)
    (hs : ∀ (i : Nat) σ R Dd H, i < n → HI H R Dd → I i σ R Dd → g (.int (lo + i)) σ H fun σ2 H2 => tb { D with nx := NX I (i + 1), ct := NX I (i + 1), bk := D.nx } σ2 H2) (hd : ∀ σ R Dd H, HI H R Dd → I n σ R Dd → D.nx σ H) : ForK (Itr lo n) g tb D σ H :=
  for_hi walk_range I hi h0 (fun _ _ _ _ _ _ _ _ => trivial) (fun i x σ R Dd H H' hn a b y => by
    obtain ⟨rfl, rfl⟩ := y
    exact hs i σ R Dd H' hn a b) hd
/-- over a list that is data -/
theorem for_lst {K : PySem.W.Frag} {a : Addr} {xs : List V} (I : Nat → L2.St → Cells → Hp → Prop) (hi : HI H R0 D0) (h0 : I 0 σ R0 D0) (hl : ∀ i σ R Dd, I i σ R Dd → Dd a = some (.lst xs))
    (hs : ∀ (i : Nat) x σ R Dd H, xs[i]? = some x → HI H R Dd → I i σ R Dd → g x σ H fun σ2 H2 => tb { D with nx := NX I (i + 1), ct := NX I (i + 1), bk := D.nx } σ2 H2) (hd : ∀ σ R Dd H, HI H R Dd → I xs.length σ R Dd → D.nx σ H) : ForK (Itl K a) g tb D σ H :=
  for_hi walk_list I hi h0 (fun i σ R Dd H _ q p => SqL.of (q.dat (hl i σ R Dd p))) (fun i x σ R Dd H H' hn a b y => by
    obtain ⟨rfl, y⟩ := y
    exact hs i x σ R Dd H' y a b) hd
/-- a comprehension's word: its list is the first cell -/
def PW' (L : Addr) (I : Nat → List V → Cells → Hp → Prop) (i : Nat) (H : Hp) : Prop := ∃ acc R Dd, HI H ((L, .lst acc) :: R) Dd ∧ I i acc R Dd ∧ acc.length ≤ i
/-- a turn's end: one more -/
def LE (L : Addr) (I : Nat → List V → Cells → Hp → Prop) (i : Nat) : VK := fun y H => ∃ acc, H L = some (.lst acc) ∧ acc.length < sizeLine ∧ PW' L I i (upd H L (.lst (acc ++ [y])))
theorem le_mk {L : Addr} {I : Nat → List V → Cells → Hp → Prop} {i : Nat} {acc : List V} {R : Cells} {Dd H : Hp} {y : V} (h : HI H ((L, .lst acc) :: R) Dd) (q : I (i + 1) (acc ++ [y]) R Dd) (hl : acc.length ≤ i) (hn : i < 1000000) : LE L I (i + 1) y H :=
  ⟨acc, h.get (List.mem_cons_self ..), by rw [sizeLine_eq]; omega, acc ++ [y], R, Dd, h.set, q, by rw [List.length_append]; simpa using hl⟩
theorem lx_mk {L : Addr} {I : Nat → List V → Cells → Hp → Prop} {i : Nat} {acc : List V} {R : Cells} {Dd H : Hp} (h : HI H ((L, .lst acc) :: R) Dd) (q : I (i + 1) acc R Dd) (hl : acc.length ≤ i) : PW' L I (i + 1) H := ⟨acc, R, Dd, h, q, by omega⟩
theorem lc_hi (w : Walk J n G Y) (I : Nat → List V → Cells → Hp → Prop) (hi : HI H R0 D0) (h0 : I 0 [] R0 D0) (hG : ∀ i acc R Dd H, i ≤ n → HI H R Dd → I i acc R Dd → G H)
    (hs : ∀ L i acc x R Dd H H', i < n → HI H ((L, .lst acc) :: R) Dd → I i acc R Dd → acc.length ≤ i → Y i H x H' → g x (wipe σ vs) H' fun σ2 H2 => wipe σ2 vs = wipe σ vs ∧ tt σ2 H2 fun b H3 => if b = true then te σ2 H3 (LE L I (i + 1)) else PW' L I (i + 1) H3)
    (hd : ∀ L acc R Dd H, HI H ((L, .lst acc) :: R) Dd → I n acc R Dd → acc.length ≤ n → Q (.ref L) H) : LcK J g tt te vs σ H Q := fun L hL =>
  lc_it w (PW' L I) ⟨[], R0, D0, hi.new hL, h0, Nat.le_refl _⟩ (fun i H' hn ⟨acc, R, Dd, a, b, _⟩ => hG i acc R Dd H' hn a.drop b)
    (fun i x H1 H1' hn1 ⟨acc, R, Dd, a, b, c⟩ y => hs L i acc x R Dd H1 H1' hn1 a b c y) (fun H' ⟨acc, R, Dd, a, b, c⟩ => hd L acc R Dd H' a b c)
theorem lc_rng {lo : Int} (I : Nat → List V → Cells → Hp → Prop) (hi : HI H R0 D0) (h0 : I 0 [] R0 D0)
    (hs : ∀ L i acc R Dd H, i < n → HI H ((L, .lst acc) :: R) Dd → I i acc R Dd → acc.length ≤ i → g (.int (lo + (i : Nat))) (wipe σ vs) H fun σ2 H2 => wipe σ2 vs = wipe σ vs ∧ tt σ2 H2 fun b H3 => if b = true then te σ2 H3 (LE L I (i + 1)) else PW' L I (i + 1) H3)
    (hd : ∀ L acc R Dd H, HI H ((L, .lst acc) :: R) Dd → I n acc R Dd → acc.length ≤ n → Q (.ref L) H) : LcK (Itr lo n) g tt te vs σ H Q :=
  lc_hi walk_range I hi h0 (fun _ _ _ _ _ _ _ _ => trivial) (fun L i acc x R Dd H H' hn a b c y => by
    obtain ⟨rfl, rfl⟩ := y
    exact hs L i acc R Dd H' hn a b c) hd
theorem lc_lst {K : PySem.W.Frag} {a : Addr} {xs : List V} (I : Nat → List V → Cells → Hp → Prop) (hi : HI H R0 D0) (h0 : I 0 [] R0 D0) (hl : ∀ i acc R Dd, I i acc R Dd → Dd a = some (.lst xs))
    (hs : ∀ L i acc x R Dd H, xs[i]? = some x → HI H ((L, .lst acc) :: R) Dd → I i acc R Dd → acc.length ≤ i → g x (wipe σ vs) H fun σ2 H2 => wipe σ2 vs = wipe σ vs ∧ tt σ2 H2 fun b H3 => if b = true then te σ2 H3 (LE L I (i + 1)) else PW' L I (i + 1) H3)
    (hd : ∀ L acc R Dd H, HI H ((L, .lst acc) :: R) Dd → I xs.length acc R Dd → acc.length ≤ xs.length → Q (.ref L) H) : LcK (Itl K a) g tt te vs σ H Q :=
  lc_hi walk_list I hi h0 (fun i acc R Dd H _ q p => SqL.of (q.dat (hl i acc R Dd p))) (fun L i acc x R Dd H H' hn a b c y => by
    obtain ⟨rfl, y⟩ := y
    exact hs L i acc x R Dd H' y a b c) hd
theorem lc_str {z : Str} (I : Nat → List V → Cells → Hp → Prop) (hi : HI H R0 D0) (h0 : I 0 [] R0 D0)
    (hs : ∀ L i acc c R Dd H, z.cps[i]? = some c → HI H ((L, .lst acc) :: R) Dd → I i acc R Dd → acc.length ≤ i → g (.str ⟨#[c]⟩) (wipe σ vs) H fun σ2 H2 => wipe σ2 vs = wipe σ vs ∧ tt σ2 H2 fun b H3 => if b = true then te σ2 H3 (LE L I (i + 1)) else PW' L I (i + 1) H3)
    (hd : ∀ L acc R Dd H, HI H ((L, .lst acc) :: R) Dd → I z.cps.size acc R Dd → acc.length ≤ z.cps.size → Q (.ref L) H) : LcK (Its z) g tt te vs σ H Q :=
  lc_hi walk_str I hi h0 (fun _ _ _ _ _ _ _ _ => trivial) (fun L i acc x R Dd H H' hn a b c y => by
    obtain ⟨rfl, d, y, rfl⟩ := y
    exact hs L i acc d R Dd H' y a b c) hd
end
end Wk
set_option maxRecDepth 100000
set_option maxHeartbeats 4000000
namespace Wk
open PySem PySem.Spec PyProof.Rows L2
/-- the base class at B -/
structure ExB (K : PySem.W.Frag) (mg : Str → Option Value) (n : Str) (B : Addr) : Prop where
  g : mg n = some (.ref B)
  rd : PySem.W.readsIn K B (.type "type") = true
  sp : PySem.W.specialIn K (.ref B) "__getattribute__" = some (some (.builtin "type.__getattribute__"))
  vV : PySem.W.findCls K (.ref B) (.type "type") "__init__" = some (.val (.builtin "ValueError.__init__"))
/-- an own exception class at C, its __init__ at fI -/
structure ExK (K : PySem.W.Frag) (mg : Str → Option Value) (n : Str) (C fI : Addr) : Prop where
  g : mg n = some (.ref C)
  T : OexC K C
  E : ExcC K C
  iC : PySem.W.findIn K (.ref C) "__init__" = some (some (.ref fI))
  tI : PySem.W.typeIn K (.ref fI) = some (.type "function")
  no : PySem.W.findIn K (.ref C) "found" = some none
def isVal (o : Option PySem.W.CFound) (n : String) : Bool := match o with
  | some (.val (.builtin x)) => x == n
  | _ => false
theorem isVal_ok {o : Option PySem.W.CFound} {n : String} (h : isVal o n = true) : o = some (.val (.builtin n)) := by
  unfold isVal at h
  split at h
  · rw [beq_iff_eq.mp h]
  · cases h
def exbB (n : Str) (K : PySem.W.Frag) : Bool := PySem.W.readsIn K (He.ga K n) (.type "type") && (He.eqO (PySem.W.specialIn K (.ref (He.ga K n)) "__getattribute__") (some (some (.builtin "type.__getattribute__"))) && isVal (PySem.W.findCls K (.ref (He.ga K n)) (.type "type") "__init__") "ValueError.__init__")
def oexB (K : PySem.W.Frag) (C : Addr) : Bool := match K.lookup C with
  | some ⟨.type "type", _, .cls cd, sl⟩ => (match cd.mro, sl.toList with
    | .ref C' :: bm, [_, _, _, _, some (.builtin n), _] => C' == C && (n == "ValueError.__new__" && (!cd.hasDel && (cd.hasDict && PySem.HandSPX.refsVE bm)))
    | _, _ => false)
  | _ => false
def eqB (a b : Option Bool) : Bool := decide (a = b)
def eqV (a b : Option Value) : Bool := decide (a = b)
def exkB (n : Str) (K : PySem.W.Frag) : Bool :=
  let C := He.ga K n
  oexB K C && (He.eqO (PySem.W.findIn K (.ref C) "__setattr__") (some (some (.builtin "object.__setattr__"))) && (eqB (PySem.W.subIn K (.ref C) (.type "BaseException")) (some true) && (eqV (PySem.W.typeIn K (.ref C)) (some (.type "type")) && (PySem.W.keepIn K (.ref C) &&
  (He.eqO (PySem.W.findIn K (.ref C) "__getattribute__") (some (some (.builtin "BaseException.__getattribute__"))) && (He.eqO (PySem.W.findIn K (.ref C) "__getattr__") (some none) && (PySem.W.hasDictIn K C &&
  (He.eqO (PySem.W.findIn K (.ref C) "__class__") (some (some (.builtin "object.__class__"))) && (He.eqO (PySem.W.specialIn K (.builtin "object.__class__") "__get__") (some (some (.builtin "getset_descriptor.__get__"))) && (eqB (PySem.W.takesIn K (.builtin "object.__class__")) (some true) && (eqB (PySem.W.mroIn K C (.type "object")) (some true) &&
  (He.eqO (PySem.W.findIn K (.ref C) "__init__") (some (some (.ref (He.ma K C "__init__")))) && (eqV (PySem.W.typeIn K (.ref (He.ma K C "__init__"))) (some (.type "function")) && He.eqO (PySem.W.findIn K (.ref C) "found") (some none))))))))))))))
section
variable {K : PySem.W.Frag} {h : Heap} {mg : Str → Option Value}
theorem oexB_ok {C : Addr} (q : oexB K C = true) : ∃ nm q N bs bm sn sub ab col dd k0 k1 k2 k3 k5, K.lookup C = some (excClassObj nm q C N bs bm true sn sub ab col dd k0 k1 k2 k3 k5 "ValueError.__new__") ∧ PySem.HandSPX.refsVE bm = true := by
  unfold oexB at q
  split at q
  · rename_i dd cd sl ho
    split at q
    · rename_i C' bm k0 k1 k2 k3 n k5 hm hs
      simp only [Bool.and_eq_true, beq_iff_eq, Bool.not_eq_true'] at q
      obtain ⟨rfl, rfl, hdel, hd, ht⟩ := q
      obtain ⟨nm, bs, mro, ns, qn, hdc, sn, sub, ab, col, del⟩ := cd
      dsimp only at hm hdel hd
      subst hm hdel hd
      have hsl : sl = #[k0, k1, k2, k3, some (.builtin "ValueError.__new__"), k5] := by
        obtain ⟨l⟩ := sl
        simp only at hs
        rw [hs]
      subst hsl
      exact ⟨nm, qn, ns, bs, bm, sn, sub, ab, col, dd, k0, k1, k2, k3, k5, ho, ht⟩
    · cases q
  · cases q
theorem exb_ok (X : K.In h) (G : h.Ns mainGlobals mg) {n : Str} (c1 : (He.Fa.glo n).ok K = true) (c : exbB n K = true) : ExB K mg n (He.ga K n) := by
  obtain ⟨a, c⟩ := He.ba c
  obtain ⟨b, d⟩ := He.ba c
  exact ⟨He.glo_ok X G c1, a, He.eqO_ok b, isVal_ok d⟩
theorem exk_ok (X : K.In h) (G : h.Ns mainGlobals mg) {n : Str} (c1 : (He.Fa.glo n).ok K = true) (c : exkB n K = true) : ExK K mg n (He.ga K n) (He.ma K (He.ga K n) "__init__") := by
  obtain ⟨a1, c⟩ := He.ba c
  obtain ⟨a2, c⟩ := He.ba c
  obtain ⟨a3, c⟩ := He.ba c
  obtain ⟨a4, c⟩ := He.ba c
  obtain ⟨a5, c⟩ := He.ba c
  obtain ⟨a6, c⟩ := He.ba c
  obtain ⟨a7, c⟩ := He.ba c
  obtain ⟨a8, c⟩ := He.ba c
  obtain ⟨a9, c⟩ := He.ba c
  obtain ⟨a10, c⟩ := He.ba c
  obtain ⟨a11, c⟩ := He.ba c
  obtain ⟨a12, c⟩ := He.ba c
  obtain ⟨a13, c⟩ := He.ba c
  obtain ⟨a14, a15⟩ := He.ba c
  exact ⟨He.glo_ok X G c1, ⟨oexB_ok a1, He.eqO_ok a2, of_decide_eq_true a3, of_decide_eq_true a4, a5⟩, ⟨He.eqO_ok a6, He.eqO_ok a7, of_decide_eq_true a3, a8, He.eqO_ok a9, He.eqO_ok a10, of_decide_eq_true a11, of_decide_eq_true a12⟩, He.eqO_ok a13, of_decide_eq_true a14, He.eqO_ok a15⟩
end
section
variable {X : Cx} {o e : Expr} {es : List Expr} {to te : TE} {ta : TA} {f : Str} {p p' p1 p2 pos : Pos} {C fI B : Addr} {n x : Str}
/-- B.__init__(self, ..), B an own class without an __init__ of its own -/
theorem pe_binit {pl : Sem Bool} (T : ExB X.K X.mg n B) (hg : Gl X n) (ha : PA X (e :: es) ta) (hdb : (n == ("__debug__" : Str)) = false := by decide)
    (hc : eval (.Call (.Attribute (.Name n p1) "__init__" p2) (e :: es) [] pos) X.env = (do
      let ov ← eval (.Name n p1) X.env
      standAt p2.atName
      let (f, first) ← holding [ov] (getMethod ov "__init__" pl)
      callWith pos f first (backTo pos (starEach (e :: es) X.env)) (backToKw pos (keywordEach [] X.env))) := by rfl)
    (he : starEach (e :: es) X.env = (false, eval e X.env) :: starEach es X.env := by rfl) (hpl : (backTo pos (starEach es X.env)).any (·.1) = false := by rfl) :
    PE X (.Call (.Attribute (.Name n p1) "__init__" p2) (e :: es) [] pos) (tVeI X.K ta) := by
  refine ⟨fun pins s σ H Q I h => ?_⟩
  refine PySem.W.methodCall_KW (ld_glob I hg T.g ?_ hdb) hc
  refine PySem.W.method_cls I.kIn T.sp ?_
  refine PySem.W.cls_value I.kIn T.rd T.vV (by decide +kernel) ?_
  show wpAny _ _ (callWith pos (Value.builtin "ValueError.__init__") [] (backTo pos (starEach (e :: es) X.env)) []) _ _ _
  refine PyProof.Rows.callWith_method1 (thn (ha.run pos pins _ σ H _ (I.tok _) h) fun us s1 ⟨vs, H1, I1, r1, a, C, ws, ev, hl, T, ea, q⟩ => ?_) he hpl
  subst ev
  cases r1 with
  | @cons _ u0 _ ur ra rw' =>
    obtain rfl : u0 = Value.ref a := ra
    have hlen : ur.length ≤ sizeLine := by
      rw [← Paired.length rw', sizeLine_eq]
      omega
    exact oinit_ok T I1 ea hlen fun s' J => ⟨.non, H1, J, rfl, q⟩
end
/-- __init__(self, found) -/
def spInit (K : PySem.W.Frag) (C : Addr) : Sp := fun vs H Q _ => ∃ (a : Addr) (v : V), vs = [.ref a, v] ∧ OexC K C ∧ PySem.W.findIn K (.ref C) "found" = some none ∧ H a = some (exo a C none) ∧
  ∀ d, H d = none → d ≠ a → Q .non (upd (upd H d (exd d [(("found" : Str), v)])) a (exo a C (some d)))
theorem spInit_len {K : PySem.W.Frag} {C : Addr} {vs : List V} {H : Hp} {Q : VK} {E : XK} (h : spInit K C vs H Q E) : vs.length = (["self", "found"] : List Str).length := by
  obtain ⟨a, v, rfl, _⟩ := h
  rfl
theorem init_plain {K : PySem.W.Frag} {C : Addr} {z : Str} {vs : List V} {H : Hp} {Q : VK} {E : XK} (h : spInit K C vs H Q E) :
    tSeq (tDrop (tVeI K (tCons (tVar 0) (tCons (tC (.str z)) tNil)))) (tOst K "found" (tVar 0) (tVar 1)) { nx := fun _ H' => Q .non H', rt := Q } (start ["self", "found"] vs) H := by
  obtain ⟨a, v, rfl, T, no, ea, k⟩ := h
  exact ⟨_, rfl, a, C, [.str z], rfl, (show 1 ≤ 1000 by decide), T, ea, ⟨_, rfl, _, rfl, a, C, rfl, T, no, .inl ⟨ea, k⟩⟩⟩
/-- C(e) -/
def tMkE (C : Addr) (ta : TA) : TE := fun σ H Q => ta σ H fun vs H1 => ∃ v, vs = [v] ∧ ∀ a d, H1 a = none → H1 d = none → d ≠ a → Q (.ref a) (upd (upd H1 d (exd d [(("found" : Str), v)])) a (exo a C (some d)))
theorem upd_swap {H : Hp} {a b : Addr} {o u : HO} (h : a ≠ b) : upd (upd H a o) b u = upd (upd H b u) a o := by
  funext c
  by_cases h1 : c = a
  · subst h1
    rw [upd_ne h, upd_same, upd_same]
  · by_cases h2 : c = b
    · subst h2
      rw [upd_same, upd_ne h1, upd_same]
    · rw [upd_ne h2, upd_ne h1, upd_ne h1, upd_ne h2]
theorem upd_end {H : Hp} {a d : Addr} {o o' u : HO} (h : d ≠ a) : upd (upd (upd H a o) d u) a o' = upd (upd H d u) a o' := by
  rw [upd_swap h.symm, upd_upd]
/-- what init leaves, seen from the maker -/
theorem init_use {K : PySem.W.Frag} {mg : Str → Option Value} {n : Str} {C fI a : Addr} {v : V} {H : Hp} {Q : VK} {E : XK} (T : ExK K mg n C fI) (h : ∀ d, H d = none → d ≠ a → Q .non (upd (upd H d (exd d [(("found" : Str), v)])) a (exo a C (some d)))) :
    spInit K C [.ref a, v] (upd H a (exo a C none)) Q E :=
  ⟨a, v, rfl, T.T, T.no, upd_same, fun d hd ne => by
    rw [upd_end ne]
    rw [upd_ne ne] at hd
    exact h d hd ne⟩
section
variable {X : Cx} {e : Expr} {te : TE} {ta : TA} {p pos : Pos} {C fI : Addr} {n : Str} {k : Nat}
/-- the call itself -/
theorem run_exc {pins : List (Addr × Obj)} {σ : L2.St} {H1 : Hp} {s1 : Shared} {v : V} {u : Value} {Q : Value → Shared → Prop} (T : ExK X.K X.mg n C fI) (F1 : FnOk X.prog X.w X.K X.mg X.base CX0 k fI (fdOf X.K fI) ["self", "found"] (spInit X.K C)) (hb : Binds X.K (fdOf X.K fI) ["self", "found"] []) (hr : Room (k + 1) X.A)
    (I1 : Inv X pins σ H1 s1) (rv : RelV v u) (q : ∀ (a d : Addr) (hp2 h2 : Heap) (g2 : Array GenState) (d2 : Drawn) (t2 : Nat) (os2 : OsState), H1 a = none → H1 d = none → d ≠ a → s1.heap.objs.size ≤ a → (∀ b o, s1.heap.get? b = some o → hp2.get? b = some o) →
      Un (frs X.stack) [] (upd H1 a (exo a C none)) (upd (upd H1 d (exd d [(("found" : Str), v)])) a (exo a C (some d))) hp2 h2 → HOk X.prog X.w (upd (upd H1 d (exd d [(("found" : Str), v)])) a (exo a C (some d))) h2 → os2 = s1.os → AllBare g2 →
      Inv X pins σ (upd (upd H1 d (exd d [(("found" : Str), v)])) a (exo a C (some d))) ⟨h2, g2, d2, t2, os2⟩ → Q (.ref a) ⟨h2, g2, d2, t2, os2⟩) :
    wpAny (model X.prog X.w) X.A (call (.ref C) [u]) Q X.xe s1 := by
  obtain ⟨nm, qq, N, bs, bm, sn, sub, ab, col, dd, k0, k1, k2, k3, k5, hC, hbm⟩ := T.T.cls
  obtain ⟨hp, g, dr, tk, os⟩ := s1
  have hsz : hp.objs.size ≤ hp.objs.size + 1 := Nat.le_succ _
  have hn : H1 (hp.objs.size + 1) = none := I1.hok.fresh hsz
  have kk : ∀ b o, hp.get? b = some o → ((hp.push (PySem.W.kdv_tup [u])).push (PySem.HandSPX.excO C hp.objs.size)).get? b = some o := fun b o e => Heap.get?_push_of_some _ (Heap.get?_push_of_some _ e)
  have hget : ((hp.push (PySem.W.kdv_tup [u])).push (PySem.HandSPX.excO C hp.objs.size)).get? (hp.objs.size + 1) = some (PySem.HandSPX.excO C hp.objs.size) := by heap_get
  have I2 : Inv X pins σ (upd H1 (hp.objs.size + 1) (exo (hp.objs.size + 1) C none)) ⟨(hp.push (PySem.W.kdv_tup [u])).push (PySem.HandSPX.excO C hp.objs.size), g, dr, tk, os⟩ :=
    I1.laid (t' := tk) (a := hp.objs.size + 1) (o := exo (hp.objs.size + 1) C none) (h' := (hp.push (PySem.W.kdv_tup [u])).push (PySem.HandSPX.excO C hp.objs.size)) kk hsz (exo_ok hget)
  have r2 : Vals [V.ref (hp.objs.size + 1), v] [Value.ref (hp.objs.size + 1), u] := .cons rfl (.cons rv .nil)
  have hus : [u].length ≤ sizeLine := by
    rw [sizeLine_eq]
    exact (by decide : 1 ≤ 16777216)
  have sp1 : spInit X.K C [.ref (hp.objs.size + 1), v] (upd H1 (hp.objs.size + 1) (exo (hp.objs.size + 1) C none)) (fun w H2 => w = .non ∧ ∃ d, H1 d = none ∧ d ≠ hp.objs.size + 1 ∧ H2 = upd (upd H1 d (exd d [(("found" : Str), v)])) (hp.objs.size + 1) (exo (hp.objs.size + 1) C (some d))) (fun _ _ _ => False) :=
    init_use T fun d hd ne => ⟨rfl, d, hd, ne, rfl⟩
  refine wpAny_call (PySem.HandSPX.call_own F.excBase_ValueError (fun Y => PySem.HandSPX.refsVE_contains Y bm hbm) (I1.kIn _ _ hC) (PySem.W.looks_findIn I1.kIn T.iC) (fun self => PySem.W.bind_fn I1.kIn self T.tI) hus
    (codeAny_mono (F1.run _ X.stack _ _ ⟨[Value.ref (hp.objs.size + 1), u], []⟩ [Value.ref (hp.objs.size + 1), u] _ _ (fun _ _ _ => False) (hr.make C [u] []) (I2.env0.make C [u] []) (hb _ [Value.ref (hp.objs.size + 1), u] I2.kIn rfl) r2 sp1) fun r s' hq' => ?_))
  cases r with
  | error er => exact hq'.elim
  | ok fl =>
    cases fl with
    | ret z =>
      have hq0 := hq'
      obtain ⟨w, H2, os2, bare2, un2, hok2, rw', ew, d, hd1, ne, e2⟩ := hq'
      subst ew e2
      obtain ⟨w', H3, J, rw2, ew2, d', hd', ne', e3⟩ := I2.after hq0
      subst ew2
      obtain ⟨h2, g2, d2, t2, os'⟩ := s'
      refine ⟨rw', q _ d _ h2 g2 d2 t2 os' hn hd1 ne hsz kk un2 hok2 os2 bare2 ?_⟩
      exact I2.call' (ch := []) os2 un2 hok2 bare2 (fun b z => absurd z (by simp))
    | next => exact False.elim hq'
    | brk => exact False.elim hq'
    | cont => exact False.elim hq'
/-- C(e), to be raised -/
def tMkX (C : Addr) (ta : TA) : L2.St → Hp → XK → Prop := fun σ H Q => ta σ H fun vs H1 => ∃ v, vs = [v] ∧ ∀ d, H1 d = none → Q (.ref C) (some d) (upd H1 d (.xd [(("found" : Str), v)]))
theorem pmk_X (T : ExK X.K X.mg n C fI) (F1 : FnOk X.prog X.w X.K X.mg X.base CX0 k fI (fdOf X.K fI) ["self", "found"] (spInit X.K C)) (hb : Binds X.K (fdOf X.K fI) ["self", "found"] []) (hr : Room (k + 1) X.A) (hg : Gl X n) (ha : PA X [e] ta)
    (hdb : (n == ("__debug__" : Str)) = false := by decide) (he : starEach [e] X.env = (false, eval e X.env) :: starEach [] X.env := by rfl) (hpl : (backTo pos (starEach [] X.env)).any (·.1) = false := by rfl) :
    PMk X (.Call (.Name n p) [e] [] pos) (tMkX C ta) := by
  intro pins s σ H Q I h
  refine wpAny_Call_Name_kw (ld_glob I hg T.g ?_ hdb)
  refine PySem.W.callWith_K (h₀ := X.base) I.ok.mod.kin T.T.kC (thn (ha.run pos pins s σ H _ I h) fun us s1 ⟨vs, H1, I1, r1, v, ev, q1⟩ => ⟨I1.kIn, ?_⟩) he hpl
  subst ev
  cases r1 with
  | @cons _ u _ us rv rn =>
    cases rn
    show wpAny _ _ (call (.ref C) [u]) _ _ _
    refine run_exc T F1 hb hr I1 rv fun a d hp2 h2 g2 d2 t2 os2 ha hd ne hsz kk un hok eo hb2 J => ?_
    obtain ⟨hp, g, dr, tk, os⟩ := s1
    refine mk_end (fs := [(("found" : Str), v)]) (hp2 := hp2) (os1 := os) (raises_own T.T.exC T.T.tyC) I1 hsz kk un hok eo hb2 upd_same (by rw [upd_ne ne, upd_same]) hd ?_
    have e1 : upd (del (upd (upd H1 d (exd d [(("found" : Str), v)])) a (exo a C (some d))) a) d (.xd [(("found" : Str), v)]) = upd H1 d (.xd [(("found" : Str), v)]) := by
      funext b
      by_cases h1 : b = d
      · rw [h1, upd_same, upd_same]
      · rw [upd_ne h1, upd_ne h1]
        by_cases h2 : b = a
        · rw [h2, del_same, ha]
        · rw [del_ne h2, upd_ne h2, upd_ne h1]
    rw [e1]
    exact q1 d hd
def tRaiseX (C : Addr) (W : L2.WX) (ta : TA) : TS := fun _ σ H => tMkX C ta σ H fun cls d H' => W cls d σ H'
theorem ps_raiseX {W : L2.WX} {pos2 : Pos} (hc : X.calm = true) (tk : Takes X W) (T : ExK X.K X.mg n C fI) (F1 : FnOk X.prog X.w X.K X.mg X.base CX0 k fI (fdOf X.K fI) ["self", "found"] (spInit X.K C)) (hb : Binds X.K (fdOf X.K fI) ["self", "found"] []) (hr : Room (k + 1) X.A) (hg : Gl X n) (ha : PA X [e] ta)
    (hdb : (n == ("__debug__" : Str)) = false := by decide) (he : starEach [e] X.env = (false, eval e X.env) :: starEach [] X.env := by rfl) (hpl : (backTo pos (starEach [] X.env)).any (·.1) = false := by rfl) :
    PS X (.Raise (some (.Call (.Name n p) [e] [] pos)) none pos2) (tRaiseX C W ta) := ps_raise hc tk (pmk_X T F1 hb hr hg ha hdb he hpl)
end
/-- the same over the heap in two parts -/
theorem mkE_use {H D : Hp} {R : List (Addr × HO)} {v : V} {C : Addr} {Q : VK} (h : HI H R D) (k : ∀ a d H' D', HI H' R D' → Ex D D' → D' a = some (exo a C (some d)) → D' d = some (exd d [(("found" : Str), v)]) → Q (.ref a) H') :
    ∃ w, [v] = [w] ∧ ∀ a d, H a = none → H d = none → d ≠ a → Q (.ref a) (upd (upd H d (exd d [(("found" : Str), w)])) a (exo a C (some d))) :=
  ⟨v, rfl, fun a d ha hd ne => by
    have h1 := h.newD (o := exd d [(("found" : Str), v)]) hd
    have ha1 : upd H d (exd d [(("found" : Str), v)]) a = none := by rw [upd_ne ne.symm]; exact ha
    have h2 := h1.newD (o := exo a C (some d)) ha1
    exact k a d _ _ h2 ((Ex.new (h.free hd)).trans (Ex.new (h1.free ha1))) upd_same (by rw [upd_ne ne, upd_same])⟩
theorem mkX_use {H D : Hp} {R : List (Addr × HO)} {v : V} {C : Addr} {E : XK} (h : HI H R D) (k : ∀ d H' D', HI H' R D' → Ex D D' → D' d = some (.xd [(("found" : Str), v)]) → E (.ref C) (some d) H') :
    ∃ w, [v] = [w] ∧ ∀ d, H d = none → E (.ref C) (some d) (upd H d (.xd [(("found" : Str), w)])) :=
  ⟨v, rfl, fun d hd => k d _ _ (h.newD hd) (Ex.new (h.free hd)) upd_same⟩
end Wk
set_option maxRecDepth 100000
set_option maxHeartbeats 4000000
namespace Wk
open PySem PySem.Spec PyProof.Rows L2
/-- at e: an exception of the class at C, its args at t1 -/
def exq (e C : Addr) (d : Option Addr) (t1 : Addr) : HO := .ext fun h => h.get? e = some ({ cls := .ref C, dict := d, data := .fields #[.ref t1, .none, .none, .none, .bool false, .none] } : Obj)
theorem exq_at {P : Program} {w : World} {H : Hp} {h : Heap} {e C t1 : Addr} {d : Option Addr} (hok : HOk P w H h) (he : H e = some (exq e C d t1)) : h.get? e = some ({ cls := .ref C, dict := d, data := .fields #[.ref t1, .none, .none, .none, .bool false, .none] } : Obj) := by
  have x : ObjOk P w H h e (.ext fun h => h.get? e = some ({ cls := .ref C, dict := d, data := .fields #[.ref t1, .none, .none, .none, .bool false, .none] } : Obj)) := hok e _ he
  exact x.1
/-- what is made: the args, the dict, the exception -/
def mkd (a C d t1 : Addr) (z : Str) (v : V) (H : Hp) : Hp := upd (upd (upd H t1 (.tup [.str z])) d (exd d [(("found" : Str), v)])) a (exq a C (some d) t1)
section
variable {X : Cx} {e : Expr} {te : TE} {ta : TA} {p pos : Pos} {C fI : Addr} {n z : Str} {k : Nat}
/-- C(e) -/
def tMkQ (C : Addr) (z : Str) (ta : TA) : TE := fun σ H Q => ta σ H fun vs H1 => ∃ v, vs = [v] ∧ ∀ a d t1, H1 a = none → H1 d = none → H1 t1 = none → d ≠ a → t1 ≠ a → d ≠ t1 → Q (.ref a) (mkd a C d t1 z v H1)
end
/-- the same over the heap in two parts -/
def MkQP (C : Addr) (z : Str) (vs : List V) (H : Hp) (Q : VK) : Prop := ∃ v, vs = [v] ∧ ∀ a d t1, H a = none → H d = none → H t1 = none → d ≠ a → t1 ≠ a → d ≠ t1 → Q (.ref a) (mkd a C d t1 z v H)
theorem se_mkQ {C : Addr} {z : Str} {ta : TA} {σ : L2.St} {H : Hp} {Q : VK} (h : ta σ H fun vs H1 => MkQP C z vs H1 Q) : tMkQ C z ta σ H Q := h
theorem mkQ_now {H D : Hp} {R : List (Addr × HO)} {v : V} {C : Addr} {z : Str} {Q : VK} (h : HI H R D) (k : ∀ a d t1 H' D', HI H' R D' → Ex D D' → D' a = some (exq a C (some d) t1) → D' d = some (exd d [(("found" : Str), v)]) → D' t1 = some (.tup [.str z]) → Q (.ref a) H') : MkQP C z [v] H Q :=
  ⟨v, rfl, fun a d t1 ha hd ht n1 n2 n3 => by
    have h0 := h.newD (o := .tup [.str z]) ht
    have hd1 : upd H t1 (.tup [.str z]) d = none := by rw [upd_ne n3]; exact hd
    have h1 := h0.newD (o := exd d [(("found" : Str), v)]) hd1
    have ha1 : upd (upd H t1 (.tup [.str z])) d (exd d [(("found" : Str), v)]) a = none := by rw [upd_ne n1.symm, upd_ne n2.symm]; exact ha
    have h2 := h1.newD (o := exq a C (some d) t1) ha1
    exact k a d t1 _ _ h2 ((Ex.new (h.free ht)).trans ((Ex.new (h0.free hd1)).trans (Ex.new (h1.free ha1)))) upd_same (by rw [upd_ne n1, upd_same]) (by rw [upd_ne n2, upd_ne n3.symm, upd_same])⟩
end Wk
set_option maxRecDepth 100000
set_option maxHeartbeats 4000000
namespace Wk
open PySem PySem.Spec PyProof.Rows L2
/-- values picked by places -/
def gI {α : Type} (idx : List Nat) (l : List α) : List α := idx.filterMap fun i => l[i]?
theorem vals_gI {vs : List V} {us : List Value} (r : Vals vs us) : ∀ idx : List Nat, Vals (Wk.gI idx vs) (Wk.gI idx us)
  | [] => .nil
  | i :: idx => by
    unfold Wk.gI
    rw [List.filterMap_cons, List.filterMap_cons]
    have ih := vals_gI r idx
    unfold Wk.gI at ih
    have one : ∀ {vs : List V} {us : List Value} (i : Nat), Vals vs us → (vs[i]? = none ∧ us[i]? = none) ∨ ∃ v u, vs[i]? = some v ∧ us[i]? = some u ∧ RelV v u := by
      intro vs us i r
      induction r generalizing i with
      | nil => exact .inl ⟨rfl, rfl⟩
      | cons a b ih =>
        cases i with
        | zero => exact .inr ⟨_, _, rfl, rfl, a⟩
        | succ j => exact ih j
    rcases one i r with ⟨e1, e2⟩ | ⟨v, u, e1, e2, rr⟩
    · rw [e1, e2]
      exact ih
    · rw [e1, e2]
      exact .cons rr ih
/-- n positional values and keywords ks bind; gV puts all values in the parameters' order -/
def KB (K : PySem.W.Frag) (fd : FuncData) (ps : List Str) (n : Nat) (ks : List Str) (gV : List V → List V → List V) : Prop := ∃ g, KBn K fd ps n ks g gV
section
variable {K : PySem.W.Frag} {x qual : Str} {st : Stmt} {dvs : List V} {f : Addr} {ps ks : List Str} {n : Nat}
/-- no defaults -/
theorem kb_n (F : FD K x qual st [] f) (g : {α : Type} → List α → List α → List α) (hrel : ∀ {vs zs : List V} {us ws : List Value}, Vals vs us → Vals zs ws → Vals (g vs zs) (g us ws))
    (h : ∀ (kV doc pm : Value) (an : Option Addr) (cdv ct : Value) (us ws : List Value), us.length = n → ws.length = ks.length → bindArgs (PySem.W.fnOf x qual (defArgs st) (defBody st) (defScope st) .none kV doc pm an cdv ct) ⟨us, ks.zip ws⟩ = pure (ps.zip (g us ws))) :
    KB K (fdOf K f) ps n ks g := by
  obtain ⟨oc, od, dV, kV, doc, pm, an, cdv, ct, osl, e, lk, hcd, hD, hK⟩ := FunD.ex F
  refine ⟨g, ⟨fun s us ws X l1 l2 => ?_, fun r1 r2 => hrel r1 r2⟩⟩
  rw [e]
  rcases hD with ⟨_, rfl⟩ | ⟨e, _⟩
  · exact .of_eq (h kV doc pm an cdv ct us ws l1 l2)
  · exact absurd rfl e
/-- defaults -/
theorem kb_d (F : FD K x qual st dvs f) (hd : dvs ≠ []) (g : {α : Type} → List α → List α → List α → List α) (hrel : ∀ {vs ds zs : List V} {us its ws : List Value}, Vals vs us → Vals ds its → Vals zs ws → Vals (g vs ds zs) (g us its ws))
    (h : ∀ (T : Addr) (kV doc pm : Value) (an : Option Addr) (cdv ct : Value) (us its ws : List Value), us.length = n → its.length = dvs.length → ws.length = ks.length →
      ∃ k, bindArgs (PySem.W.fnOf x qual (defArgs st) (defBody st) (defScope st) (.ref T) kV doc pm an cdv ct) ⟨us, ks.zip ws⟩ = seqItems? (.ref T) >>= k ∧ k (some its.toArray) = pure (ps.zip (g us its ws))) :
    KB K (fdOf K f) ps n ks (fun vs zs => g vs dvs zs) := by
  obtain ⟨oc, od, dV, kV, doc, pm, an, cdv, ct, osl, e, lk, hcd, hD, hK⟩ := FunD.ex F
  rcases hD with ⟨e, _⟩ | ⟨_, T, o, its, m, rfl, lT, oT, rT⟩
  · exact absurd e hd
  · refine ⟨fun us ws => g us its ws, ⟨fun s us ws X l1 l2 => ?_, fun r1 r2 => hrel r1 rT r2⟩⟩
    obtain ⟨k, e1, e2⟩ := h T kV doc pm an cdv ct us its ws l1 rT.length.symm l2
    refine BindsTo.of_looks fun M => ?_
    rw [e, e1]
    exact looks_items X lT oT (.of_pure e2)
end
def gCallN (n m : Nat) (sp : Sp) (gV : List V → List V → List V) (E : L2.St → XK) (t tk : TA) : TE := fun σ H Q => t σ H fun vs H1 => tk σ H1 fun zs H2 => vs.length = n ∧ zs.length = m ∧ sp (gV vs zs) H2 Q (E σ)
section
variable {X : Cx} {k n : Nat} {f C : Addr} {ps ks : List Str} {sp : Sp} {E : L2.St → XK} {x m : Str} {p pos apos : Pos} {e o : Expr} {es : List Expr} {kws : List Keyword} {t tk ta : TA} {to : TE} {gV : List V → List V → List V}
theorem run_gN {pins : List (Addr × Obj)} {σ : L2.St} {H : Hp} {s : Shared} {Q : VK} {us ws : List Value} {vs zs : List V} (F : FnG X.prog X.w X.K X.mg X.base k f ps sp) (hgu : X.A.guards = some []) (hr : Room k X.A) (hb : KB X.K (fdOf X.K f) ps n ks gV) (hx : PassG X σ (E σ))
    (I : Inv X pins σ H s) (r : Vals vs us) (rz : Vals zs ws) (l1 : vs.length = n) (l2 : zs.length = ks.length) (h : sp (gV vs zs) H Q (E σ)) : wpAny (model X.prog X.w) X.A (call (.ref f) us (ks.zip ws)) (EP X pins σ Q) X.xe s := by
  obtain ⟨g, hb⟩ := hb
  have r2 := hb.rel r rz
  refine wpAny_call (codeAny_mono (F.run X.A X.stack s H ⟨us, ks.zip ws⟩ (g us ws) (gV vs zs) Q (E σ) hgu hr I.env0 (hb.to s us ws I.kIn (r.length.symm.trans l1) (rz.length.symm.trans l2)) r2 h) fun r s' hq => ?_)
  cases r with
  | error e => exact hx pins H s e s' I hq
  | ok fl =>
    cases fl with
    | ret u => exact I.after hq
    | next => exact False.elim hq
    | brk => exact False.elim hq
    | cont => exact False.elim hq
/-- f(e, .., k = v, ..) -/
theorem ge_callN (F : FnG X.prog X.w X.K X.mg X.base k f ps sp) (hgu : X.A.guards = some []) (hr : Room k X.A) (hg : Gl X x) (hm : X.mg x = some (.ref f)) (hk : PySem.W.keepIn X.K (.ref f) = true) (hb : KB X.K (fdOf X.K f) ps n ks gV) (hx : ∀ σ, PassG X σ (E σ))
    (ha : PA X (e :: es) t) (hkw : PK X kws tk) (hdb : (x == ("__debug__" : Str)) = false := by decide) (hall : (backToKw pos (keywordEach kws X.env)).all (·.1.isSome) = true := by rfl) (hks : (backToKw pos (keywordEach kws X.env)).filterMap (·.1) = ks := by rfl)
    (he : starEach (e :: es) X.env = (false, eval e X.env) :: starEach es X.env := by rfl)
    (hpl : ((backTo pos (starEach (e :: es) X.env)).any (·.1) || (backToKw pos (keywordEach kws X.env)).any (·.1.isNone)) = false := by rfl) :
    PE X (.Call (.Name x p) (e :: es) kws pos) (gCallN n ks.length sp gV E t tk) := by
  refine ⟨fun pins s σ H Q I h => ?_⟩
  refine wpAny_Call_Name_kw (ld_glob I hg hm ?_ hdb)
  refine PySem.W.callWith_KW (h₀ := X.base) I.ok.mod.kin hk hall (thn (ha.run pos pins s σ H _ I h) fun us s1 ⟨vs, H1, I1, r, q⟩ => ?_) hpl he
  refine thn (hkw.run pos pins s1 σ H1 _ I1 q) fun ws s2 ⟨zs, H2, I2, rz, l1, l2, q2⟩ => ⟨I2.kIn, ?_⟩
  rw [hks]
  exact run_gN F hgu hr hb (hx σ) I2 r rz l1 l2 q2
theorem se_callN {σ : L2.St} {H : Hp} {Q : VK} {n m : Nat} (h : t σ H fun vs H1 => tk σ H1 fun zs H2 => vs.length = n ∧ zs.length = m ∧ sp (gV vs zs) H2 Q (E σ)) : gCallN n m sp gV E t tk σ H Q := h
theorem se_call1 {σ : L2.St} {H : Hp} {Q : VK} {dvs : List V} (h : t σ H fun vs H1 => sp (vs ++ dvs) H1 Q (E σ)) : gCall sp dvs E t σ H Q := h
end
inductive Knd where
  | non | bl | int | str | lst | tup | dict | oth
deriving DecidableEq
def Knd.is : Knd → String → Bool
  | .non, n => n == "NoneType"
  | .bl, n => n == "bool" || n == "int"
  | .int, n => n == "int"
  | .str, n => n == "str"
  | .lst, n => n == "list"
  | .tup, n => n == "tuple"
  | .dict, n => n == "dict"
  | .oth, _ => false
def six : List String := ["int", "bool", "str", "list", "tuple", "dict"]
/-- the class's instances are none of the six -/
def Six (K : PySem.W.Frag) (C : Addr) : Prop := ∀ n ∈ six, PySem.W.kitOne K (.ref C) (.type n) = some false
def sixB (x : Str) (K : PySem.W.Frag) : Bool := six.all fun n => eqB (PySem.W.kitOne K (.ref (He.ga K x)) (.type n)) (some false)
/-- what the class of an own plain class says, so that isinstance may ask its instances -/
structure InsC (K : PySem.W.Frag) (C : Addr) : Prop where
  cl : Cls K C
  ha : PySem.W.findIn K (.ref C) "__class__" = some (some (.builtin "object.__class__"))
  hn : PySem.W.specialIn K (.builtin "object.__class__") "__get__" = some (some (.builtin "getset_descriptor.__get__"))
  ht : PySem.W.takesIn K (.builtin "object.__class__") = some true
  hm : PySem.W.mroIn K C (.type "object") = some true
/-- a value's kind -/
inductive Kn (K : PySem.W.Frag) (H : Hp) : V → Knd → Prop where
  | non : Kn K H .non .non
  | bl (b : Bool) : Kn K H (.bl b) .bl
  | int (i : Int) : Kn K H (.int i) .int
  | str (x : Str) : Kn K H (.str x) .str
  | lst {a : Addr} {xs : List V} (e : H a = some (.lst xs)) : Kn K H (.ref a) .lst
  | frz {a : Addr} {o : Obj} {xs : List V} (e : H a = some (.frz o (.lst xs))) : Kn K H (.ref a) .lst
  | tup {a : Addr} {xs : List V} (e : H a = some (.tup xs)) : Kn K H (.ref a) .tup
  | dict {a : Addr} {kvs : List (Key × V)} (e : H a = some (.dK kvs)) : Kn K H (.ref a) .dict
  | exc {a d C : Addr} {fs : List (Str × V)} (e : H a = some (exo a C (some d))) (ed : H d = some (exd d fs)) (c : ExcC K C) (s : Six K C) : Kn K H (.ref a) .oth
  | excq {a d C t1 : Addr} {fs : List (Str × V)} (e : H a = some (exq a C (some d) t1)) (ed : H d = some (exd d fs)) (c : ExcC K C) (s : Six K C) : Kn K H (.ref a) .oth
  | ins {a C dx : Addr} {fs : List (Str × V)} (e : H a = some (.ins C dx fs)) (c : InsC K C) (s : Six K C) : Kn K H (.ref a) .oth
theorem Kn.mono {K : PySem.W.Frag} {H H' : Hp} {v : V} {k : Knd} (h : Kn K H v k) (x : Ex H H') : Kn K H' v k := by
  cases h with
  | non => exact .non
  | bl b => exact .bl b
  | int i => exact .int i
  | str z => exact .str z
  | lst e => exact .lst (x _ _ e)
  | frz e => exact .frz (x _ _ e)
  | tup e => exact .tup (x _ _ e)
  | dict e => exact .dict (x _ _ e)
  | exc e ed c s => exact .exc (x _ _ e) (x _ _ ed) c s
  | excq e ed c s => exact .excq (x _ _ e) (x _ _ ed) c s
  | ins e c s => exact .ins (x _ _ e) c s
theorem HI.kn {K : PySem.W.Frag} {H D : Hp} {R : List (Addr × HO)} {v : V} {k : Knd} (h : HI H R D) (r : Kn K D v k) : Kn K H v k := r.mono h.sub
abbrev Six0 (a : String) (k : Knd) : Prop := ∀ n ∈ six, kitB a n = some (k.is n)
section
variable {prog : Program} {w : World} {A : Around} {E : Value → Shared → Prop} {s : Shared} {K : PySem.W.Frag} {x D : Addr} {ox od : Obj}
open PySem.W PySem.Calls in
theorem kin_classX {Q : Option Value → Shared → Prop} (C : ExcC K D)
    (X : K.In s.heap) (I : InstAt s.heap x ox D (some od)) (h : Q (some (.ref D)) { s with toks := s.toks + 1 }) : wpAny (model prog w) A (getAttr? (.ref x) "__class__") Q E s := by
  have hga := C.hg
  have hgt := C.hk
  have hsub := C.hs
  have hdct := C.hd
  have ha := C.ha
  have hn := C.hn
  have htk := C.ht
  have hm := C.hm
  have hf : findObj K D (some od) "__class__" = some (.bind (.builtin "getset_descriptor.__get__") (.builtin "object.__class__")) := findObj_data (by obtain ⟨cd, hc, _⟩ := any_some hdct; rw [hc]; rfl) ha hn htk
  obtain ⟨hp, g, d, t, os⟩ := s
  have L0 := I.type (M := model prog w)
  have L1 := looks_findIn (M := model prog w) X hga
  have L2 := looks_findIn (M := model prog w) X hgt
  have L3 := looks_find (M := model prog w) X I hf
  have sub : Looks (model prog w) hp (isInstance (.ref x) (.type "BaseException")) true := L0.andThen (looks_subIn X hsub)
  have hx0 : (false && onTheHeap (Value.builtin "BaseException.__getattribute__")) = false := rfl
  have hx2 : (Value.builtin "BaseException.__getattribute__" == Value.builtin "object.__getattribute__") = false := by decide +kernel
  have hx1 : (onTheHeap (Value.ref D) && Value.builtin "BaseException.__getattribute__" == Value.builtin "object.__getattribute__") = false := by rw [hx2]; rfl
  unfold getAttr? getAttrBy? getAttrBy
  refine wpAny_bind (wpAny_mkText (wpAny_bind (wpAny_attempt (wpAny_holding (wpAny_bind (L0.at (wpAny_bind (L1.at ?_))))))))
  show wpAny _ _ (if (onTheHeap (Value.ref D) && Value.builtin "BaseException.__getattribute__" == Value.builtin "object.__getattribute__") = true then _ else _) _ _ _
  rw [hx1, if_neg Bool.false_ne_true]
  unfold getAttrByItsOwn hookBefore
  refine wpAny_bind ?_
  rw [if_pos (show onTheHeap (Value.ref D) = true from rfl)]
  refine L2.at ?_
  refine wpAny_bind (wpAny_attempt (wpAny_holding ?_))
  unfold callGetattribute
  rw [hx0, if_neg Bool.false_ne_true]
  unfold boundAndCalled
  rw [PySem.F.excAttr_ValueError.ga.bind (.ref x)]
  refine wpAny_bind (wpAny_pure ?_)
  show wpAny _ _ (call (.builtin "BaseException.__getattribute__") [.ref x, .str "__class__" t]) _ _ _
  refine wpAny_call (codeAny_call_builtin PySem.F.excAttr_ValueError.ga.plain PySem.F.entry_bexc_ga ?_)
  refine @check_slot (model prog w) _ _ ⟨hp, g, d, t + 1, os⟩ "BaseException.__getattribute__" "BaseException" "__getattribute__" (.ref x) [.str "__class__" t] [] _ (by decide +kernel) (by decide +kernel) sub (PySem.F.args_bexc_ga (.ref x) (.str "__class__" t)) ?_
  unfold Builtin.«object.__getattribute__»
  refine wpAny_bind (wpAny_of_eq (a := ((Value.ref x : Value), [Value.str "__class__" t])) (by first | rfl | (simp only [slotArgs]; rfl)) ?_)
  refine wpAny_bind (wpAny_pure (wpAny_bind (L0.at (wpAny_bind (L3.at ?_)))))
  show wpAny _ _ (holding [Value.builtin "object.__class__"] (call (.builtin "getset_descriptor.__get__") [.builtin "object.__class__", .ref x, .ref D]) >>= ret) _ _ _
  refine wpAny_bind (wpAny_holding (wpAny_call (class_get (s := ⟨hp, g, d, t + 1, os⟩) (ox := ox) (od := some od) X I hm ?_)))
  refine wpAny_pure ?_
  show wpAny _ _ (handedOut (.ref D)) _ _ _
  rw [handedOut_of (v := .ref D) rfl]
  first
    | exact wpAny_pure (wpAny_pure h)
    | exact wpAny_pure h
    | exact wpAny_pure (wpAny_bind (wpAny_pure (wpAny_pure h)))
open PySem.W PySem.Calls in
theorem kitx_X (C : ExcC K D) : KitX K (.ref x) (.ref D) (fun h => InstAt h x ox D (some od)) where
  ty := fun _ _ _ I => I.type
  it := fun _ _ X _ => by
    obtain ⟨cdD, hcD, _⟩ := any_some C.hd
    unfold clsIn at hcD
    split at hcD
    · rename_i c' d' cd' sl' ho
      intro A' Q' E' s' k q
      unfold isType loadHead
      exact wpAny_bind (wpAny_loadPart (k _ _ (X _ _ ho)) (wpAny_pure q))
    · cases hcD
  ne := fun h tp dd its n sl X htp => by
    obtain ⟨cdD, hcD, _⟩ := any_some C.hd
    refine Bool.eq_false_iff.mpr fun q => ?_
    have e : D = tp := Value.ref.inj (beq_iff_eq.mp q)
    subst e
    unfold clsIn at hcD
    split at hcD
    · rename_i c' d' cd' sl' ho
      have z := (X _ _ ho).symm.trans htp
      cases z
    · cases hcD
  ca := fun X I k => kin_classX C X I k
end
section
variable {X : Cx} {pins : List (Addr × Obj)} {σ : L2.St} {H : Hp} {s : Shared}
/-- the type of such a value, and what the library's rules ask -/
theorem kn_of {v : V} {u : Value} {k : Knd} (I : Inv X pins σ H s) (rx : RelV v u) (h : Kn X.K H v k) :
    ∃ (t : Value) (P : Heap → Prop), PySem.W.KitX X.K u t P ∧ P s.heap ∧ u ≠ .builtin "__main__.__loader__#opaque" ∧ ∀ n ∈ six, PySem.W.kitOne X.K t (.type n) = some (k.is n) := by
  have go : ∀ {t : Value}, TyX X.K H v t → (∀ n ∈ six, PySem.W.kitOne X.K t (.type n) = some (k.is n)) → ∃ (t : Value) (P : Heap → Prop), PySem.W.KitX X.K u t P ∧ P s.heap ∧ u ≠ .builtin "__main__.__loader__#opaque" ∧ ∀ n ∈ six, PySem.W.kitOne X.K t (.type n) = some (k.is n) := fun ty hk => by
    obtain ⟨P, Z, p, hx⟩ := kit_of I rx ty
    exact ⟨_, P, Z, p, hx, hk⟩
  have b : ∀ {a : String}, Six0 a k → ∀ n ∈ six, PySem.W.kitOne X.K (.type a) (.type n) = some (k.is n) := fun h n hn => kit_ty (h n hn)
  cases h with
  | non => exact go (.base .non) (b (by decide +kernel))
  | bl c => exact go (.base (.bl c)) (b (by decide +kernel))
  | int i => exact go (.base (.int i)) (b (by decide +kernel))
  | str z => exact go (.base (.str z)) (b (by decide +kernel))
  | lst e => exact go (.base (.lst e)) (b (by decide +kernel))
  | frz e => exact go (.base (.frz e)) (b (by decide +kernel))
  | tup e => exact go (.base (.tup e)) (b (by decide +kernel))
  | dict e => exact go (.base (.dK e)) (b (by decide +kernel))
  | ins e c s => exact go (.base (.ins e c.cl c.ha c.hn c.ht c.hm)) s
  | @exc a d C fs e ed c s =>
    cases (show u = Value.ref a from rx)
    obtain ⟨t1, ho⟩ := exo_at I.hok e
    obtain ⟨mA, hns, rel⟩ := exd_at I.hok ed
    obtain ⟨oD, _, _, hoD, _, _⟩ := hns.count (within_of rel)
    exact ⟨_, _, kitx_X (od := oD) c, ⟨ho, rfl, rfl, hoD⟩, (fun z => nomatch z), s⟩
  | @excq a d C t1 fs e ed c s =>
    cases (show u = Value.ref a from rx)
    have ho := exq_at I.hok e
    obtain ⟨mA, hns, rel⟩ := exd_at I.hok ed
    obtain ⟨oD, _, _, hoD, _, _⟩ := hns.count (within_of rel)
    exact ⟨_, _, kitx_X (od := oD) c, ⟨ho, rfl, rfl, hoD⟩, (fun z => nomatch z), s⟩
end
/-- isinstance(x, T), T one of the six -/
inductive RIsi (K : PySem.W.Frag) : List V → Hp → VK → Prop
  | ty {x : V} {n : String} {k : Knd} {H : Hp} {Q : VK} : Kn K H x k → n ∈ six → Q (.bl (k.is n)) H → RIsi K [x, .ty n] H Q
/-- isinstance(x, (T, ..)) -/
inductive RIsiT (K : PySem.W.Frag) : List V → Hp → VK → Prop
  | ty {x : V} {p : Addr} {ns : List String} {k : Knd} {H : Hp} {Q : VK} : Kn K H x k → H p = some (.tup (ns.map V.ty)) → (∀ n ∈ ns, n ∈ six) → Q (.bl (ns.any k.is)) H → RIsiT K [x, .ref p] H Q
theorem kitAny_map {K : PySem.W.Frag} {t : Value} {k : Knd} (h : ∀ n ∈ six, PySem.W.kitOne K t (.type n) = some (k.is n)) : ∀ ns : List String, (∀ n ∈ ns, n ∈ six) → PySem.W.kitAny K t (ns.map Value.type) = some (ns.any k.is)
  | [], _ => rfl
  | n :: ns, hn => by
    refine kitAny_cons (h n (hn n (List.mem_cons_self ..))) (fun e => ?_) fun e => ?_
    · rw [List.any_cons, e, Bool.false_or]
      exact kitAny_map h ns fun m hm => hn m (List.mem_cons_of_mem _ hm)
    · rw [List.any_cons, e, Bool.true_or]
theorem clsV_map : ∀ ns : List String, Paired ClsV (ns.map V.ty) (ns.map Value.type)
  | [] => .nil
  | n :: ns => .cons (.ty n) (clsV_map ns)
section
variable {X : Cx}
theorem call_isiU : CallR X (.builtin "isinstance") (RIsi X.K) := by
  intro pins s σ H xs us Q I r h
  cases h with
  | ty kn hn q =>
    obtain ⟨u1, u2, rfl, r1, r2⟩ := vals2 r
    cases (show u2 = Value.type _ from r2)
    obtain ⟨t, P, Z, p, hx, hk⟩ := kn_of I r1 kn
    exact PySem.W.kia_one Z I.kIn p (hk _ hn) hx fun tk => ⟨.bl _, H, I.tok tk, rfl, q⟩
theorem call_isiTU : CallR X (.builtin "isinstance") (RIsiT X.K) := by
  intro pins s σ H xs us Q I r h
  cases h with
  | @ty x tp ns k _ _ kn hT hn q =>
    obtain ⟨u1, u2, rfl, r1, r2⟩ := vals2 r
    cases (show u2 = Value.ref tp from r2)
    obtain ⟨t, P, Z, p, hx, hk⟩ := kn_of I r1 kn
    obtain ⟨_, its, rv, o, h1, h2, n, h3⟩ := (show ObjOk X.prog X.w H s.heap tp (.tup (ns.map V.ty)) from I.hok tp _ hT)
    have e3 := ClsV.all (clsV_map ns) rv
    subst e3
    obtain ⟨oc, od, dt, sl⟩ := o
    simp only at h2 h3
    subst h2 h3
    exact PySem.W.kia_tup Z I.kIn p h1 (kitAny_map hk ns hn) hx fun tk => ⟨.bl _, H, I.tok tk, rfl, q⟩
end
end Wk
set_option maxRecDepth 100000
set_option maxHeartbeats 4000000
namespace Wk
open PySem PySem.Spec PyProof.Rows L2
section
variable {K : PySem.W.Frag} {σ : L2.St} {H : Hp} {Q : VK} {ta tb tc te to : TE} {t tk : TA} {tl th : TO} {D : Ends}
theorem se_andV (h : ta σ H fun x H1 => ∃ c, x = .bl c ∧ if c = true then tb σ H1 Q else Q (.bl false) H1) : tAndV ta tb σ H Q := h
theorem se_orV (h : ta σ H fun x H1 => ∃ c, x = .bl c ∧ if c = true then Q (.bl true) H1 else tb σ H1 Q) : tOrV ta tb σ H Q := h
theorem se_notV (h : ta σ H fun x H1 => ∃ c, x = .bl c ∧ Q (.bl (!c)) H1) : tNotV ta σ H Q := h
theorem se_chain {r r' : R2} (h : ta σ H fun x H1 => tb σ H1 fun y H2 => r x y H2 fun z H3 => ∃ k, z = .bl k ∧ (if k = true then tc σ H3 fun w' H4 => r' y w' H4 Q else Q (.bl false) H3)) : tChain r r' ta tb tc σ H Q := h
theorem se_sl {r : V → Option Int → Option Int → Hp → VK → Prop} (h : te σ H fun x H1 => tl σ H1 fun l H2 => th σ H2 fun u H3 => r x l u H3 Q) : tSl r te tl th σ H Q := h
theorem so_none {P : Option Int → Hp → Prop} (h : P none H) : tNoPart σ H P := h
theorem so_some {P : Option Int → Hp → Prop} (h : te σ H fun x H1 => ∃ i, x = .int i ∧ P (some i) H1) : tPart te σ H P := h
theorem so_int {i : Int} {P : Int → Prop} (h : P i) : ∃ j, V.int i = .int j ∧ P j := ⟨i, rfl, h⟩
theorem se_m1 {r : V → List V → Hp → VK → Prop} (h : to σ H fun x H1 => (∃ a, x = .str a) ∧ te σ H1 fun y H2 => r x [y] H2 Q) : tM1 r to te σ H Q := h
theorem se_m0 {r : V → List V → Hp → VK → Prop} (h : to σ H fun x H1 => (∃ a, x = .str a) ∧ r x [] H1 Q) : tM0 r to σ H Q := h
theorem m_str {z : Str} {A : Prop} (h : A) : (∃ a, V.str z = .str a) ∧ A := ⟨⟨z, rfl⟩, h⟩
def MkEP (C : Addr) (vs : List V) (H : Hp) (Q : VK) : Prop := ∃ v, vs = [v] ∧ ∀ a d, H a = none → H d = none → d ≠ a → Q (.ref a) (upd (upd H d (exd d [(("found" : Str), v)])) a (exo a C (some d)))
def MkXP (C : Addr) (vs : List V) (H : Hp) (Q : XK) : Prop := ∃ v, vs = [v] ∧ ∀ d, H d = none → Q (.ref C) (some d) (upd H d (.xd [(("found" : Str), v)]))
theorem se_mkE {C : Addr} (h : t σ H fun vs H1 => MkEP C vs H1 Q) : tMkE C t σ H Q := h
theorem mkE_now {H D : Hp} {R : List (Addr × HO)} {v : V} {C : Addr} {Q : VK} (h : HI H R D) (k : ∀ a d H' D', HI H' R D' → Ex D D' → D' a = some (exo a C (some d)) → D' d = some (exd d [(("found" : Str), v)]) → Q (.ref a) H') : MkEP C [v] H Q := mkE_use h k
theorem st_raiseX {C : Addr} {W : L2.WX} (h : t σ H fun vs H1 => MkXP C vs H1 fun cls d H' => W cls d σ H') : tRaiseX C W t D σ H := h
theorem mkX_now {H D : Hp} {R : List (Addr × HO)} {v : V} {C : Addr} {Q : XK} (h : HI H R D) (k : ∀ d H' D', HI H' R D' → Ex D D' → D' d = some (.xd [(("found" : Str), v)]) → Q (.ref C) (some d) H') : MkXP C [v] H Q := mkX_use h k
theorem st_par {i j : Nat} (h : t σ H fun vs H1 => ∃ v w, vs = [v, w] ∧ D.nx ((σ.set i (some v)).set j (some w)) H1) : tPar i j t D σ H := h
theorem par_mk {x y : V} {P : V → V → Prop} (h : P x y) : ∃ v w, [x, y] = [v, w] ∧ P v w := ⟨x, y, rfl, h⟩
theorem st_aug {i : Nat} {ti : TIp} {x : V} (e : σ[i]? = some (some x)) (h : te σ H fun y H1 => ti x y H1 fun z H2 => D.nx (σ.set i (some z)) H2) : tAug i te ti D σ H := ⟨x, e, h⟩
inductive RMx : List V → Hp → VK → Prop
  | mk {i j : Int} {H : Hp} {Q : VK} : (∀ m, i ≤ m → j ≤ m → (m = i ∨ m = j) → Q (.int m) H) → RMx [.int i, .int j] H Q
inductive RMn : List V → Hp → VK → Prop
  | mk {i j : Int} {H : Hp} {Q : VK} : (∀ m, m ≤ i → m ≤ j → (m = i ∨ m = j) → Q (.int m) H) → RMn [.int i, .int j] H Q
inductive RAll : List V → Hp → VK → Prop
  | mk {p : Addr} {bs : List Bool} {H : Hp} {Q : VK} : H p = some (.lst (bs.map V.bl)) → Q (.bl (bs.all id)) H → RAll [.ref p] H Q
inductive RSum : List V → Hp → VK → Prop
  | mk {p : Addr} {ns : List Int} {H : Hp} {Q : VK} : H p = some (.lst (ns.map V.int)) → Q (.int ns.sum) H → RSum [.ref p] H Q
inductive RJoin : V → List V → Hp → VK → Prop
  | mk {z : Str} {p : Addr} {ys : List Str} {H : Hp} {Q : VK} : H p = some (.lst (ys.map V.str)) → (ys.map (·.length)).sum + ys.length * z.length ≤ 16777216 → Q (.str (Txt.join z ys)) H → RJoin (.str z) [.ref p] H Q
inductive RStarts : V → List V → Hp → VK → Prop
  | mk {x y : Str} {H : Hp} {Q : VK} : Q (.bl (Txt.startswith x y)) H → RStarts (.str x) [.str y] H Q
inductive RFind : V → List V → Hp → VK → Prop
  | mk {x y : Str} {H : Hp} {Q : VK} : Q (.int (Txt.find x y)) H → RFind (.str x) [.str y] H Q
/-- str(x) -/
inductive RStr : List V → Hp → VK → Prop
  | int {i : Int} {H : Hp} {Q : VK} : i.natAbs.log2 < 1920 → Q (.str (toString i)) H → RStr [.int i] H Q
/-- int(x) -/
inductive RInt : List V → Hp → VK → Prop
  | bl {b : Bool} {H : Hp} {Q : VK} : Q (.int (if b then 1 else 0)) H → RInt [.bl b] H Q
  | str {z : Str} {n : Int} {H : Hp} {Q : VK} : PySem.intText? z = some n → z.length ≤ 640 → Q (.int n) H → RInt [.str z] H Q
end
section
variable {X : Cx} {o e : Expr} {to te : TE}
theorem call_maxU (hc : X.calm = true) : CallR X (.builtin "max") RMx := by
  intro pins s σ H xs us Q I r h
  cases h with
  | @mk i j _ _ k =>
    refine call_max2 hc pins s σ H _ us Q I r ⟨i, j, rfl, ?_⟩
    by_cases c : j > i
    · rw [if_pos c]
      exact k j (by omega) (by omega) (.inr rfl)
    · rw [if_neg c]
      exact k i (by omega) (by omega) (.inl rfl)
theorem call_minU (hc : X.calm = true) : CallR X (.builtin "min") RMn := by
  intro pins s σ H xs us Q I r h
  cases h with
  | @mk i j _ _ k =>
    refine call_min2 hc pins s σ H _ us Q I r ⟨i, j, rfl, ?_⟩
    by_cases c : j < i
    · rw [if_pos c]
      exact k j (by omega) (by omega) (.inr rfl)
    · rw [if_neg c]
      exact k i (by omega) (by omega) (.inl rfl)
theorem call_allU (hc : X.calm = true) : CallR X (.builtin "all") RAll := by
  intro pins s σ H xs us Q I r h
  cases h with
  | mk e q => exact cr_all hc pins s σ H _ us Q I r ⟨_, _, rfl, SqL.of e, q⟩
theorem call_sumU (hc : X.calm = true) : CallR X (.builtin "sum") RSum := by
  intro pins s σ H xs us Q I r h
  cases h with
  | mk e q => exact cr_sum hc pins s σ H _ us Q I r ⟨_, _, rfl, SqL.of e, q⟩
theorem mt_joinU : MtR X "str.join" RJoin := by
  intro pins s σ H x xs v us Q I rx rs h
  cases h with
  | mk e hl q => exact mt_join pins s σ H _ _ v us Q I rx rs ⟨_, _, _, rfl, rfl, .inl (SqL.of e), hl, q⟩
end
theorem log2_small {i : Int} (h : i.natAbs < 2 ^ 200) : i.natAbs.log2 < 1920 := by
  by_cases z : i.natAbs = 0
  · rw [z]
    decide
  · have := (Nat.log2_lt z (k := 200)).mpr h
    omega
theorem pe_gi {X : Cx} {x : Str} {p : Pos} {i : Int} (hg : Gl X x) (h : ∃ t, X.mg x = some (.int i t)) (hdb : (x == ("__debug__" : Str)) = false := by decide) : PE X (.Name x p) (tC (.int i)) := let ⟨t, e⟩ := h; pe_glob hg e ⟨t, rfl⟩ hdb
theorem pe_gs {X : Cx} {x z : Str} {p : Pos} (hg : Gl X x) (h : ∃ t, X.mg x = some (.str z t)) (hdb : (x == ("__debug__" : Str)) = false := by decide) : PE X (.Name x p) (tC (.str z)) := let ⟨t, e⟩ := h; pe_glob hg e ⟨t, rfl⟩ hdb
section
variable {H : Hp} {Q : VK} {K : PySem.W.Frag}
theorem ru_mk {g : Int → V} {i : Int} (h : Q (g i) H) : rU g (.int i) H Q := ⟨i, rfl, h⟩
theorem req_int {i j : Int} (q : Q (.bl (decide (i = j))) H) : REq false (.int i) (.int j) H Q := .scal rfl (by
  have e : decide (V.int i = V.int j) = decide (i = j) := by simp
  rw [← e] at q
  exact q)
theorem rne_int {i j : Int} (q : Q (.bl (!decide (i = j))) H) : REq true (.int i) (.int j) H Q := .scal rfl (by
  have e : decide (V.int i = V.int j) = decide (i = j) := by simp
  rw [← e] at q
  exact q)
theorem req_str {i j : Str} (q : Q (.bl (decide (i = j))) H) : REq false (.str i) (.str j) H Q := .scal rfl (by
  have e : decide (V.str i = V.str j) = decide (i = j) := by simp
  rw [← e] at q
  exact q)
theorem rne_str {i j : Str} (q : Q (.bl (!decide (i = j))) H) : REq true (.str i) (.str j) H Q := .scal rfl (by
  have e : decide (V.str i = V.str j) = decide (i = j) := by simp
  rw [← e] at q
  exact q)
theorem rne_dat {x y : V} {d e : PyData} (h1 : Rep H x d) (h2 : Rep H y e) (n1 : d.hasDict = false) (n2 : e.hasDict = false) (s1 : SeqAt.shaped d = true) (s2 : SeqAt.shaped e = true) (q : Q (.bl (!PyData.eqv d e)) H) : REq true x y H Q := .dat h1 h2 n1 n2 s1 s2 q
theorem ris_non {x : V} (q : Q (.bl (decide (x = .non))) H) : RIs false x .non H Q := .non q
theorem ris_nonN {x : V} (q : Q (.bl (!decide (x = .non))) H) : RIs true x .non H Q := .non q
theorem ris_bl {x : V} {b : Bool} (q : Q (.bl (decide (x = .bl b))) H) : RIs false x (.bl b) H Q := .bl q
theorem ris_blN {x : V} {b : Bool} (q : Q (.bl (!decide (x = .bl b))) H) : RIs true x (.bl b) H Q := .bl q
theorem rin_sign {c : Nat} {z : Str} (q : Q (.bl (decide (c ∈ z.cps.toList))) H) : RIn false (.str ⟨#[c]⟩) (.str z) H Q := .sign q
theorem rni_sign {c : Nat} {z : Str} (q : Q (.bl (!decide (c ∈ z.cps.toList))) H) : RIn true (.str ⟨#[c]⟩) (.str z) H Q := .sign q
end
theorem Ex.of {D D' : Hp} {a : Addr} {o : HO} (h : D a = some o) (x : Ex D D') : D' a = some o := x a o h
/-- a short text of plain signs -/
structure TxtOk (z : Str) : Prop where
  len : z.length ≤ 1000
  sg : ∀ c ∈ z.cps.toList, c < 1000
theorem TxtOk.ok {z : Str} (h : TxtOk z) : PyData.strOk z = true := by
  unfold PyData.strOk
  rw [Array.all_eq_true']
  intro c hc
  have := h.sg c (by simpa using hc)
  simp
  omega
theorem TxtOk.sign {z : Str} {c : Nat} (h : TxtOk z) (m : c ∈ z.cps.toList) : TxtOk ⟨#[c]⟩ := ⟨by show 1 ≤ 1000; decide, fun d hd => by
  simp at hd
  rw [hd]
  exact h.sg c m⟩
theorem rep_strs {H : Hp} : ∀ ys : List Str, RepL H (ys.map V.str) (ys.map PyData.str)
  | [] => .nil
  | y :: ys => .cons (.str y) (rep_strs ys)
/-- how a value may be told apart -/
theorem Kn.told {K : PySem.W.Frag} {H : Hp} {v : V} {k : Knd} (h : Kn K H v k) : (v = .non ∧ k = .non) ∨ (∃ b, v = .bl b ∧ k = .bl) ∨ (∃ i, v = .int i ∧ k = .int) ∨ (∃ z, v = .str z ∧ k = .str) ∨ (∃ a, v = .ref a ∧ (k = .lst ∨ k = .tup ∨ k = .dict ∨ k = .oth)) := by
  cases h with
  | non => exact .inl ⟨rfl, rfl⟩
  | bl b => exact .inr (.inl ⟨b, rfl, rfl⟩)
  | int i => exact .inr (.inr (.inl ⟨i, rfl, rfl⟩))
  | str z => exact .inr (.inr (.inr (.inl ⟨z, rfl, rfl⟩)))
  | lst e => exact .inr (.inr (.inr (.inr ⟨_, rfl, .inl rfl⟩)))
  | frz e => exact .inr (.inr (.inr (.inr ⟨_, rfl, .inl rfl⟩)))
  | tup e => exact .inr (.inr (.inr (.inr ⟨_, rfl, .inr (.inl rfl)⟩)))
  | dict e => exact .inr (.inr (.inr (.inr ⟨_, rfl, .inr (.inr (.inl rfl))⟩)))
  | exc e ed c s => exact .inr (.inr (.inr (.inr ⟨_, rfl, .inr (.inr (.inr rfl))⟩)))
  | excq e ed c s => exact .inr (.inr (.inr (.inr ⟨_, rfl, .inr (.inr (.inr rfl))⟩)))
  | ins e c s => exact .inr (.inr (.inr (.inr ⟨_, rfl, .inr (.inr (.inr rfl))⟩)))
theorem atI_nat {α : Type} {xs : List α} {i : Nat} : atI xs (i : Int) = xs[i]? := by
  unfold atI ixN
  rw [if_pos (by omega)]
  by_cases h : i < xs.length
  · rw [if_pos (by omega)]
    simp
  · rw [if_neg (by omega)]
    simp at h
    simp [h]
theorem atI_map {α β : Type} {f : α → β} {xs : List α} {i : Nat} {x : α} (h : xs[i]? = some x) : atI (xs.map f) (i : Int) = some (f x) := by
  rw [atI_nat, List.getElem?_map, h]
  rfl
theorem atI_ofI {α : Type} {xs : List α} {i : Int} (h : 0 ≤ i) : atI xs i = xs[i.toNat]? := by
  obtain ⟨n, rfl⟩ := Int.eq_ofNat_of_zero_le h
  rw [atI_nat]
  rfl
end Wk
set_option maxRecDepth 100000
set_option maxHeartbeats 4000000
namespace Wk
open PySem PySem.Spec PyProof.Rows L2
/-- every sign is a plain one -/
def Sg (z : Str) : Prop := ∀ c ∈ z.cps.toList, c < 1000
theorem sg_of {z : Str} (h : (z.cps.toList.all fun c => decide (c < 1000)) = true) : Sg z := fun c hc => of_decide_eq_true (List.all_eq_true.mp h c hc)
theorem len_app (a b : Str) : (a ++ b).length = a.length + b.length := PySem.Str.length_append a b
theorem tl_app (a b : Str) : (a ++ b).cps.toList = a.cps.toList ++ b.cps.toList := by
  rw [PySem.Str.cps_append]
  simp
theorem Sg.app {a b : Str} (h : Sg a) (k : Sg b) : Sg (a ++ b) := fun c hc => by
  rw [tl_app] at hc
  rcases List.mem_append.mp hc with h1 | h1
  · exact h c h1
  · exact k c h1
theorem Sg.cut {z : Str} (h : Sg z) (lo hi : Option Int) : Sg (cutS z lo hi) := fun c hc => by
  unfold cutS at hc
  simp only at hc
  exact h c (List.mem_of_mem_drop (List.mem_of_mem_take (by simpa using hc)))
theorem len_cut (z : Str) (lo hi : Option Int) : (cutS z lo hi).length ≤ z.length := by
  show ((z.cps.toList.drop _).take _).toArray.size ≤ z.length
  rw [List.size_toArray, List.length_take, List.length_drop, cps_len0]
  omega
where cps_len0 {z : Str} : z.cps.toList.length = z.length := rfl
theorem Sg.one {z : Str} {c : Nat} (h : Sg z) (m : c ∈ z.cps.toList) : Sg ⟨#[c]⟩ := fun d hd => by
  simp at hd
  rw [hd]
  exact h c m
/-- a slice, a sum of texts, told by what they are made of alone -/
theorem rsl_some {z : Str} {lo hi : Option Int} {H : Hp} {Q : VK} (hl : z.length ≤ 1000000) (s : Sg z) (k : ∀ y, y.length ≤ z.length → Sg y → Q (.str y) H) : RSl (.str z) lo hi H Q := RSl.str (small_ok hl) (k _ (len_cut ..) (s.cut _ _))
theorem radd_some {a b : Str} {H : Hp} {Q : VK} (hl : a.length + b.length ≤ 1000000) (s1 : Sg a) (s2 : Sg b) (k : ∀ y, y.length = a.length + b.length → Sg y → Q (.str y) H) : RAdd (.str a) (.str b) H Q := RAdd.str (small_ok hl) (k _ (len_app ..) (s1.app s2))
theorem rep_size (a : Array Nat) : ∀ (n : Nat) (acc : Array Nat), ((List.replicate n a).foldl (· ++ ·) acc).size = acc.size + a.size * n
  | 0, acc => by simp
  | n + 1, acc => by
    rw [List.replicate_succ, List.foldl_cons, rep_size a n, Array.size_append, Nat.mul_succ]
    omega
theorem rep_mem (a : Array Nat) {c : Nat} : ∀ (n : Nat) (acc : Array Nat), c ∈ ((List.replicate n a).foldl (· ++ ·) acc).toList → c ∈ acc.toList ∨ c ∈ a.toList
  | 0, acc, h => .inl h
  | n + 1, acc, h => by
    rw [List.replicate_succ, List.foldl_cons] at h
    rcases rep_mem a n _ h with q | q
    · rw [Array.toList_append] at q
      exact List.mem_append.mp q
    · exact .inr q
theorem rmul_some {a : Str} {n : Int} {H : Hp} {Q : VK} (a0 : a.length = 1) (k0 : 1 ≤ n) (k1 : n ≤ 1000) (s : Sg a) (k : ∀ y, y.length = n.toNat → Sg y → Q (.str y) H) : RMul (.str a) (.int n) H Q := by
  refine RMul.str (by omega) (by omega) k0 k1 (k _ ?_ fun c hc => ?_)
  · show ((List.replicate n.toNat a.cps).foldl (· ++ ·) #[]).size = _
    rw [rep_size, show a.cps.size = 1 from a0]
    simp
  · rcases rep_mem a.cps n.toNat #[] hc with q | q
    · simp at q
    · exact s c q
theorem tst {i : Int} (h : i.natAbs < 10 ^ 30) : (Str.ofString (toString i)).length ≤ 31 ∧ Sg (Str.ofString (toString i)) := by
  refine ⟨?_, fun c hc => ?_⟩
  · rw [PySem.ofString_length]
    exact PySem.int_text_length_le10 (by decide) h
  · by_cases q : c < 1000
    · exact q
    · exact absurd hc (PyProof.Rows.int_text_free' c ⟨by omega, by omega⟩ i)
/-- texts of one plain sign each -/
def Ones (ys : List Str) : Prop := ∀ y ∈ ys, y.length = 1 ∧ Sg y
theorem Ones.sum : ∀ {ys : List Str}, Ones ys → (ys.map (·.length)).sum = ys.length
  | [], _ => rfl
  | y :: ys, h => by
    have ih := Ones.sum (ys := ys) fun z hz => h z (List.mem_cons_of_mem _ hz)
    have e := (h y (List.mem_cons_self ..)).1
    simp only [List.map_cons, List.sum_cons, List.length_cons, ih, e]
    omega
theorem Ones.snoc {ys : List Str} {z : Str} {c : Nat} (h : Ones ys) (hz : Sg z) (m : c ∈ z.cps.toList) : Ones (ys ++ [⟨#[c]⟩]) := fun y hy => by
  rcases List.mem_append.mp hy with h1 | h1
  · exact h y h1
  · rw [List.mem_singleton.mp h1]
    exact ⟨rfl, hz.one m⟩
/-- a drawn thing -/
def Th (K : PySem.W.Frag) (D : Hp) (v : V) : Prop := (∃ k, Kn K D v k) ∧ ∀ z, v = .str z → TxtOk z
theorem Th.kn {K : PySem.W.Frag} {D : Hp} {v : V} {k : Knd} (h : Kn K D v k) (n : ∀ z, v ≠ .str z := by intro z e; cases e) : Th K D v := ⟨⟨k, h⟩, fun z e => absurd e (n z)⟩
theorem Th.str {K : PySem.W.Frag} {D : Hp} {z : Str} (h : TxtOk z) : Th K D (.str z) := ⟨⟨_, .str z⟩, fun y e => by cases e; exact h⟩
theorem Th.mono {K : PySem.W.Frag} {D D' : Hp} {v : V} (h : Th K D v) (x : Ex D D') : Th K D' v := by
  obtain ⟨⟨k, a⟩, b⟩ := h
  exact ⟨⟨k, a.mono x⟩, b⟩
/-- one of the items -/
theorem atI_all {α : Type} {xs : List α} {P : α → Prop} {r : Int} (h : ∀ v ∈ xs, P v) (h0 : 0 ≤ r) (h1 : r < xs.length) : ∃ v, atI xs r = some v ∧ P v := by
  obtain ⟨n, rfl⟩ := Int.eq_ofNat_of_zero_le h0
  have hn : n < xs.length := by omega
  refine ⟨xs[n], ?_, h _ (List.getElem_mem hn)⟩
  rw [atI_nat]
  exact List.getElem?_eq_getElem hn
theorem all_c {α : Type} {x : α} {xs : List α} {P : α → Prop} (a : P x) (b : ∀ v ∈ xs, P v) : ∀ v ∈ x :: xs, P v := fun v hv => by
  rcases List.mem_cons.mp hv with e | e
  · rw [e]
    exact a
  · exact b v e
theorem all_n {α : Type} {P : α → Prop} : ∀ v ∈ ([] : List α), P v := fun v hv => by cases hv
/-- a list of which one item is taken -/
theorem RIx.pick {p : Addr} {xs : List V} {P : V → Prop} {r : Int} {H : Hp} {Q : VK} (e : H p = some (.lst xs)) (h : ∀ v ∈ xs, P v) (h0 : 0 ≤ r) (h1 : r < xs.length) (q : ∀ v, P v → Q v H) : RIx (.ref p) (.int r) H Q := by
  obtain ⟨v, e2, hv⟩ := atI_all h h0 h1
  exact RIx.l e e2 (q v hv)
theorem RIx.pickI {p : Addr} {xs : List V} {lo hi r : Int} {H : Hp} {Q : VK} (e : H p = some (.lst xs)) (h : ∀ v ∈ xs, ∃ i : Int, v = .int i ∧ lo ≤ i ∧ i ≤ hi) (h0 : 0 ≤ r) (h1 : r < xs.length) (q : ∀ i : Int, lo ≤ i → i ≤ hi → Q (.int i) H) : RIx (.ref p) (.int r) H Q := RIx.pick e h h0 h1 fun v ⟨i, e, a, b⟩ => by rw [e]; exact q i a b
/-- a sign of a text -/
theorem RIx.sgn {z : Str} {r : Int} {H : Hp} {Q : VK} (hl : z.length ≤ 1000000) (h0 : 0 ≤ r) (h1 : r < z.length) (q : ∀ c, c ∈ z.cps.toList → Q (.str ⟨#[c]⟩) H) : RIx (.str z) (.int r) H Q := by
  obtain ⟨c, e2, hc⟩ := atI_all (xs := z.cps.toList) (P := fun c => c ∈ z.cps.toList) (fun c h => h) h0 (by rw [show z.cps.toList.length = z.length from rfl]; exact h1)
  exact RIx.s (small_ok hl) e2 (q c hc)
section
variable {K : PySem.W.Frag} {σ : L2.St} {H : Hp} {Q : VK}
theorem se_dnewK (h : AlD (.dK []) H Q) : tDNewK σ H Q := h
def DispP (p : Addr) (ps : List (V × V)) (H : Hp) (Q : VK) : Prop := H p = some (.dK []) ∧ ∃ kvs : List (Key × V), ps = kvs.map (fun kv => (kV kv.1, kv.2)) ∧ kvs.length ≤ 15 ∧ Q (.ref p) (upd H p (.dK (mergeK [] kvs)))
theorem se_disp {D : Hp} {R : Cells} {trs : List (TE × TE)} (hi : HI H R D) (h : ∀ p H1, HI H1 ((p, .dK []) :: R) D → tPairs trs σ H1 fun ps H2 => DispP p ps H2 Q) : tDisp trs σ H Q := fun p hp => h p _ (hi.new hp)
theorem sp_nil {N : List (V × V) → Hp → Prop} (h : N [] H) : tPairs [] σ H N := h
theorem sp_cons {tk tv : TE} {trs : List (TE × TE)} {N : List (V × V) → Hp → Prop} (h : tk σ H fun x H1 => tv σ H1 fun y H2 => tPairs trs σ H2 fun ps H3 => N ((x, y) :: ps) H3) : tPairs ((tk, tv) :: trs) σ H N := h
def keysOf : List (V × V) → Option (List (Key × V))
  | [] => some []
  | (.int i, v) :: r => (keysOf r).map fun l => (.inl i, v) :: l
  | (.str x, v) :: r => (keysOf r).map fun l => (.inr x, v) :: l
  | _ => none
theorem keysOf_ok : ∀ {ps : List (V × V)} {kvs : List (Key × V)}, keysOf ps = some kvs → ps = kvs.map fun kv => (kV kv.1, kv.2)
  | [], kvs, e => by
    cases e
    rfl
  | (x, v) :: r, kvs, e => by
    cases x with
    | int i =>
      obtain ⟨l, e1, rfl⟩ := Option.map_eq_some_iff.mp (show (keysOf r).map _ = some kvs from e)
      rw [keysOf_ok e1]
      rfl
    | str z =>
      obtain ⟨l, e1, rfl⟩ := Option.map_eq_some_iff.mp (show (keysOf r).map _ = some kvs from e)
      rw [keysOf_ok e1]
      rfl
    | _ => cases e
theorem disp_now {p : Addr} {ps : List (V × V)} {kvs : List (Key × V)} {R : Cells} {D : Hp} (hi : HI H ((p, .dK []) :: R) D) (e : keysOf ps = some kvs) (hl : kvs.length ≤ 15) (k : ∀ H' D', HI H' R D' → Ex D D' → D' p = some (.dK (mergeK [] kvs)) → Q (.ref p) H') : DispP p ps H Q :=
  ⟨hi.get (List.mem_cons_self ..), kvs, keysOf_ok e, hl, k _ _ (hi.set (u := .dK (mergeK [] kvs))).freeze (hi.set (u := .dK (mergeK [] kvs))).freezeX upd_same⟩
end
end Wk
set_option maxRecDepth 100000
set_option maxHeartbeats 4000000
namespace Wk
open PySem PySem.Spec PyProof.Rows L2
def noList (K : PySem.W.Frag) : Bool := K.all fun p => !(p.2.cls == .type "list")
theorem noList_ok : ∀ {K : PySem.W.Frag} {a : Addr} {o : Obj}, noList K = true → K.lookup a = some o → o.cls = .type "list" → False
  | [], a, o, _, e, _ => nomatch (show (none : Option Obj) = some o from e)
  | (b, ob) :: r, a, o, h, e, hc => by
    unfold noList at h
    rw [List.all_cons] at h
    obtain ⟨h1, h2⟩ := He.ba h
    have e2 : (match a == b with | true => some ob | false => List.lookup a r) = some o := e
    cases q : (a == b) with
    | true =>
      rw [q] at e2
      have eo : ob = o := Option.some.inj e2
      rw [eo, hc] at h1
      exact absurd h1 (by decide +kernel)
    | false =>
      rw [q] at e2
      exact noList_ok (K := r) h2 e2 hc
theorem law_endG {l : PySem.W.OpenLaw} {n k : Nat} {q : Program} {loose : List Str} {XP : (Str → Option Value) → Heap → Prop} {YP : World → Heap → Prop} {d : DefRec} {x : Str}
    (hn : l.most = some n) (hn2 : n ≤ sizeLine) (hdf : d.params.defaults = []) (hr : Room k callerA)
    (F : ∀ (w : World) (mg : Str → Option Value) (fa : Addr) (h : Heap), YP w h → h.Ns mainGlobals mg → mg d.name = some (.ref fa) →
      ∃ (K : PySem.W.Frag) (sp : Sp), K.In h ∧ noList K = true ∧ (∀ (s : Shared) (u : Value), BindsTo s (fdOf K fa) ⟨[u], []⟩ [(x, u)]) ∧
        (∀ (H : Hp) (a : Addr) (o : Obj) (ns : List Int), ns.length ≤ n → HI H [] H → H a = some (.frz o (.lst (ns.map V.int))) → sp [.ref a] H (fun v _ => v = .bl true) fun _ _ _ => False) ∧
        ∀ base : Heap, K.In base → base.Ns mainGlobals mg → FnG l.prog w K mg base k fa [x] sp) :
    PySem.W.WalkO q loose XP YP l.row.toRowW d [] (fun f vs => PySem.call f vs) := by
  refine Att.attach_call hn hdf fun w s₀ s₁ mg mb fa o pm cd doc a vs ns G Y ho hd hcd hmg hobj hints hlen hg => ?_
  obtain ⟨K, sp, KX, hno, hb, hsp, hF⟩ := F w mg fa _ Y G.T.g hmg
  have hns := G.T.g
  have ha := hobj
  have hl : ns.length ≤ sizeLine := Nat.le_trans hlen hn2
  have rv := vals_ints hints
  have hk : K.lookup a = none := by
    cases e : K.lookup a with
    | none => rfl
    | some ob =>
      have e1 := KX a ob e
      rw [ha] at e1
      cases e1
      exact (noList_ok hno e rfl).elim
  let H : Hp := fun b => if b = a then some (.frz { cls := .type "list", data := .seq vs.toArray } (.lst (ns.map V.int))) else none
  have Ha : H a = some (.frz { cls := .type "list", data := .seq vs.toArray } (.lst (ns.map V.int))) := if_pos rfl
  have Hn : ∀ {b : Addr}, b ≠ a → H b = none := fun hb => if_neg hb
  have Hs : ∀ {b : Addr} {u : HO}, H b = some u → b = a := fun {b u} z => by
    by_cases hb : b = a
    · exact hb
    · rw [Hn hb] at z
      cases z
  have hok : HOk l.prog w H s₁.heap := fun b u z => by
    have hb := Hs z
    subst hb
    rw [Ha] at z
    cases z
    exact ⟨ha, by rw [List.length_map]; exact hl, vs, _, rv, ha⟩
  have base_of : ∀ {b : Addr} {o : Obj}, s₁.heap.get? b = some o → H b = none → (hidT s₁.heap H).get? b = some o := fun e n => hidT_get e n
  have noA : ∀ {b : Addr} {o : Obj} {es : Array DictEntry} {ep : Nat}, s₁.heap.get? b = some o → o.data = .dict es ep → H b = none := fun {b o es ep} e d => by
    by_cases hb : b = a
    · subst hb
      rw [ha] at e
      cases e
      have d' : Data.seq vs.toArray _ = Data.dict es ep := d
      cases d'
    · exact Hn hb
  have nsK : ∀ {b : Addr} {m : Str → Option Value}, s₁.heap.Ns b m → (hidT s₁.heap H).Ns b m := fun {b m} ⟨o, es, ep, e, d, r⟩ => ⟨o, es, ep, base_of e (noA e d), d, r⟩
  have hKb : K.In (hidT s₁.heap H) := fun b o e => base_of (KX b o e) (by
    by_cases hb : b = a
    · rw [hb, hk] at e
      cases e
    · exact Hn hb)
  have hM : Mod K mg (hidT s₁.heap H) := ⟨hKb, nsK hns, ⟨mb, nsK G.T.b, G.T.builtins⟩, let ⟨mc, h1, h2⟩ := G.T.nolimit; ⟨mc, nsK h1, h2⟩⟩
  have e0 : Env0 l.prog w K mg (hidT s₁.heap H) callerA [] s₁ H := ⟨rfl, hM, fun b o e => of_hidT e, Nat.le_of_eq (hidT_size _ _), trivial, fun b hb => absurd (show b ∈ ([] : List Addr) from hb) (by simp), hok, .of_eq hg⟩
  have hI : HI H [] H := ⟨by simp, (fun p hp => by cases hp), fun b u z => z⟩
  refine codeAny_mono ((hF _ hKb (nsK hns)).run callerA [] s₁ H ⟨[.ref a], []⟩ [.ref a] [.ref a] _ _ rfl hr e0 (hb s₁ (.ref a)) (.cons rfl .nil) (hsp H a _ ns hlen hI Ha)) fun r s' h => ?_
  cases r with
  | error e =>
    obtain ⟨_, _, _, _, _, _, _, _, _, _, _, _, z⟩ := h
    exact z.elim
  | ok fl =>
    cases fl with
    | next => exact False.elim h
    | brk => exact False.elim h
    | cont => exact False.elim h
    | ret u =>
      obtain ⟨v, H', os, bare, un, hok', r', q⟩ := h
      have q' : v = .bl true := q
      subst q'
      obtain rfl : u = Value.bool true := r'
      refine ⟨rfl, OldK.of_keep fun b o e => ?_, os, bare⟩
      by_cases hb : b = a
      · subst hb
        have z2 := un.frzs b _ _ Ha
        obtain ⟨e2, _⟩ := hok' b _ z2
        rw [ha] at e
        cases e
        exact e2
      · exact un.keep b o e (Hn hb) (by intro z; exact absurd (show b ∈ ([] : List Addr) from z) (by simp)) (by simp)
end Wk
set_option maxRecDepth 100000
set_option maxHeartbeats 4000000
namespace Wk
open PySem PySem.Spec PyProof.Rows L2
section
variable {X : Cx} {k : Nat} {f C : Addr} {ps : List Str} {sp : Sp} {pins : List (Addr × Obj)} {σ : L2.St} {H : Hp} {s : Shared} {Q : VK}
theorem run_at {A : Around} {us : List Value} {vs : List V} (F : FnG X.prog X.w X.K X.mg X.base k f ps sp) (hgu : A.guards = some []) (hfr : A.frames = X.A.frames) (hr : Room k A) (hb : Binds X.K (fdOf X.K f) ps []) (I : Inv X pins σ H s) (r : Vals vs us)
    (h : sp vs H Q (fun _ _ _ => False)) : wpAny (model X.prog X.w) A (call (.ref f) us) (fun u s' => ∃ v H', Inv X pins σ H' s' ∧ RelV v u ∧ Q v H') X.xe s := by
  have e0 : Env0 X.prog X.w X.K X.mg X.base A X.stack s H := by
    have e := I.env0
    exact ⟨by rw [hfr]; exact e.frames, e.mod, e.bs, e.bsz, e.funs, e.frf, e.hok, e.bare⟩
  have hl := F.len _ _ _ _ h
  refine wpAny_call (codeAny_mono (F.run A X.stack s H ⟨us, []⟩ us vs Q _ hgu hr e0 (by
    have := hb s us I.kIn (by simp [← r.length, hl])
    simpa using this) r h) fun r s' hq => ?_)
  cases r with
  | error e =>
    obtain ⟨_, _, _, _, _, _, _, _, _, _, _, _, z⟩ := hq
    exact z.elim
  | ok fl =>
    cases fl with
    | ret u =>
      obtain ⟨v, H', I', rv, q⟩ := I.after hq
      exact ⟨v, H', I', rv, q⟩
    | next => exact False.elim hq
    | brk => exact False.elim hq
    | cont => exact False.elim hq
/-- the instance as the library's rules want it -/
theorem ins_at {a dx : Addr} {fs : List (Str × V)} (I : Inv X pins σ H s) (e : H a = some (.ins C dx fs)) : ∃ ox od, PySem.W.InstAt s.heap a ox C (some od) := by
  obtain ⟨mA, O, _⟩ := ins_get I.hok e
  obtain ⟨od, J, _⟩ := O.look
  exact ⟨_, od, J⟩
end
def seven : List String := ["NoneType", "int", "bool", "str", "list", "tuple", "dict"]
/-- an instance or an exception of an own class -/
inductive Ow (K : PySem.W.Frag) (H : Hp) : V → Addr → Prop where
  | exc {a d C : Addr} {fs : List (Str × V)} (e : H a = some (exo a C (some d))) (ed : H d = some (exd d fs)) (c : ExcC K C) : Ow K H (.ref a) C
  | excq {a d C t1 : Addr} {fs : List (Str × V)} (e : H a = some (exq a C (some d) t1)) (ed : H d = some (exd d fs)) (c : ExcC K C) : Ow K H (.ref a) C
  | ins {a C dx : Addr} {fs : List (Str × V)} (e : H a = some (.ins C dx fs)) (c : InsC K C) : Ow K H (.ref a) C
theorem Ow.mono {K : PySem.W.Frag} {H H' : Hp} {v : V} {C : Addr} (h : Ow K H v C) (x : Ex H H') : Ow K H' v C := by
  cases h with
  | exc e ed c => exact .exc (x _ _ e) (x _ _ ed) c
  | excq e ed c => exact .excq (x _ _ e) (x _ _ ed) c
  | ins e c => exact .ins (x _ _ e) c
def Knd.tn : Knd → Option String
  | .non => some "NoneType"
  | .bl => some "bool"
  | .int => some "int"
  | .str => some "str"
  | .lst => some "list"
  | .tup => some "tuple"
  | .dict => some "dict"
  | .oth => none
/-- a value's type -/
inductive Ty (K : PySem.W.Frag) (H : Hp) : V → Value → Prop where
  | b {v : V} {k : Knd} {n : String} (h : Kn K H v k) (hn : n ∈ seven) (e : k.tn = some n) : Ty K H v (.type n)
  | o {v : V} {C : Addr} (h : Ow K H v C) : Ty K H v (.ref C)
section
variable {X : Cx} {pins : List (Addr × Obj)} {σ : L2.St} {H : Hp} {s : Shared}
theorem ty_of {v : V} {u t : Value} (I : Inv X pins σ H s) (rx : RelV v u) (h : Ty X.K H v t) : ∃ (P : Heap → Prop), PySem.W.KitX X.K u t P ∧ P s.heap ∧ u ≠ .builtin "__main__.__loader__#opaque" := by
  have go : ∀ {t : Value}, TyX X.K H v t → ∃ (P : Heap → Prop), PySem.W.KitX X.K u t P ∧ P s.heap ∧ u ≠ .builtin "__main__.__loader__#opaque" := fun ty => kit_of I rx ty
  cases h with
  | b h hn e =>
    cases h with
    | non => cases e; exact go (.base .non)
    | bl c => cases e; exact go (.base (.bl c))
    | int i => cases e; exact go (.base (.int i))
    | str z => cases e; exact go (.base (.str z))
    | lst e2 => cases e; exact go (.base (.lst e2))
    | frz e2 => cases e; exact go (.base (.frz e2))
    | tup e2 => cases e; exact go (.base (.tup e2))
    | dict e2 => cases e; exact go (.base (.dK e2))
    | exc e2 ed c s => cases e
    | excq e2 ed c s => cases e
    | ins e2 c s => cases e
  | o h =>
    cases h with
    | ins e c => exact go (.base (.ins e c.cl c.ha c.hn c.ht c.hm))
    | @exc a d C fs e ed c =>
      cases (show u = Value.ref a from rx)
      obtain ⟨t1, ho⟩ := exo_at I.hok e
      obtain ⟨mA, hns, rel⟩ := exd_at I.hok ed
      obtain ⟨oD, _, _, hoD, _, _⟩ := hns.count (within_of rel)
      exact ⟨_, kitx_X (od := oD) c, ⟨ho, rfl, rfl, hoD⟩, (fun z => nomatch z)⟩
    | @excq a d C t1 fs e ed c =>
      cases (show u = Value.ref a from rx)
      have ho := exq_at I.hok e
      obtain ⟨mA, hns, rel⟩ := exd_at I.hok ed
      obtain ⟨oD, _, _, hoD, _, _⟩ := hns.count (within_of rel)
      exact ⟨_, kitx_X (od := oD) c, ⟨ho, rfl, rfl, hoD⟩, (fun z => nomatch z)⟩
end
/-- isinstance(x, C), C an own class -/
inductive RIsiC (K : PySem.W.Frag) : List V → Hp → VK → Prop
  | ty {x : V} {C : Addr} {t : Value} {b : Bool} {H : Hp} {Q : VK} : Ty K H x t → PySem.W.kitOne K t (.ref C) = some b → Q (.bl b) H → RIsiC K [x, .ref C] H Q
theorem call_isiC {X : Cx} : CallR X (.builtin "isinstance") (RIsiC X.K) := by
  intro pins s σ H xs us Q I r h
  cases h with
  | ty ty e q =>
    obtain ⟨u1, u2, rfl, r1, r2⟩ := vals2 r
    cases (show u2 = Value.ref _ from r2)
    obtain ⟨P, Z, p, hx⟩ := ty_of I r1 ty
    exact PySem.W.kia_one Z I.kIn p e hx fun tk => ⟨.bl _, H, I.tok tk, rfl, q⟩
end Wk
set_option maxRecDepth 100000
set_option maxHeartbeats 4000000
namespace Wk
open PySem PySem.Spec PyProof.Rows L2
structure PC (K : PySem.W.Frag) (C : Addr) (fl : List Str) : Prop where
  c : Cls K C
  n : ∀ f ∈ fl, NoAttr K C f
def FldP (K : PySem.W.Frag) (f : Str) (x : V) (H : Hp) (Q : VK) : Prop := ∃ a C dx fs v, x = .ref a ∧ H a = some (.ins C dx fs) ∧ Cls K C ∧ NoAttr K C f ∧ fs.lookup f = some v ∧ Q v H
def SFldP (K : PySem.W.Frag) (f : Str) (x y : V) (H : Hp) (N : Hp → Prop) : Prop := ∃ a C dx fs, x = .ref a ∧ H a = some (.ins C dx fs) ∧ Cls K C ∧ NoAttr K C f ∧ fs.length < 1000 ∧ N (upd H a (.ins C dx (putF f y fs)))
def MethP (C : Addr) (m : Str) (x : V) (H : Hp) (N : Prop) : Prop := ∃ a dx fs, x = .ref a ∧ H a = some (.ins C dx fs) ∧ fs.lookup m = none ∧ N
def MakeP (C : Addr) (sp : Sp) (vs : V → List V) (H : Hp) (Q : VK) (E : XK) : Prop := ∀ x dx, H x = none → H dx = none → dx ≠ x → sp (vs (.ref x)) (upd (upd H dx (.own x)) x (.ins C dx [])) (fun v H2 => v = .non ∧ Q (.ref x) H2) E
section
variable {K : PySem.W.Frag} {σ : L2.St} {H D : Hp} {R : Cells} {Q : VK} {ta tv : TE} {t tk : TA} {f m : Str} {C a dx : Addr} {fs : List (Str × V)} {fl : List Str} {x y v : V} {sp : Sp} {dvs : List V} {E : L2.St → XK} {Ds : Ends}
theorem se_fld (h : ta σ H fun x H1 => FldP K f x H1 Q) : tFld K ta f σ H Q := h
theorem st_fld (h : tv σ H fun y H1 => ta σ H1 fun x H2 => SFldP K f x y H2 fun H3 => Ds.nx σ H3) : sFld K ta tv f Ds σ H := h
theorem fld_mk (e : H a = some (.ins C dx fs)) (pc : PC K C fl) (hf : f ∈ fl) (l : fs.lookup f = some v) (q : Q v H) : FldP K f (.ref a) H Q := ⟨a, C, dx, fs, v, rfl, e, pc.c, pc.n f hf, l, q⟩
theorem sfld_now {N : Hp → Prop} (hi : HI H ((a, .ins C dx fs) :: R) D) (pc : PC K C fl) (hf : f ∈ fl) (hl : fs.length < 1000) (k : ∀ H', HI H' ((a, .ins C dx (putF f y fs)) :: R) D → N H') : SFldP K f (.ref a) y H N :=
  ⟨a, C, dx, fs, rfl, hi.get (List.mem_cons_self ..), pc.c, pc.n f hf, hl, k _ hi.set⟩
theorem se_meth (h : ta σ H fun x H1 => MethP C m x H1 (t σ H1 fun vs H2 => sp (x :: (vs ++ dvs)) H2 Q (E σ))) : gMeth C m sp dvs E ta t σ H Q := h
theorem meth_mk {N : Prop} (e : H a = some (.ins C dx fs)) (l : fs.lookup m = none) (h : N) : MethP C m (.ref a) H N := ⟨a, dx, fs, rfl, e, l, h⟩
theorem se_make (h : t σ H fun vs H1 => MakeP C sp (fun x => x :: (vs ++ dvs)) H1 Q (E σ)) : gMake C sp dvs E t σ H Q := h
theorem make_now {vs : V → List V} {E : XK} (hi : HI H R D) (k : ∀ x dx H', HI H' ((x, .ins C dx []) :: (dx, .own x) :: R) D → sp (vs (.ref x)) H' (fun v H2 => v = .non ∧ Q (.ref x) H2) E) : MakeP C sp vs H Q E := fun x dx hx hd ne => by
  have h1 := hi.new (o := .own x) hd
  exact k x dx _ (h1.new (o := .ins C dx []) (by rw [upd_ne ne.symm]; exact hx))
end
/-- the instance stands -/
theorem HI.freezeI {H D : Hp} {R : Cells} {a dx C : Addr} {fs : List (Str × V)} (h : HI H ((a, .ins C dx fs) :: (dx, .own a) :: R) D) : ∃ D', HI H R D' ∧ Ex D D' ∧ D' a = some (.ins C dx fs) := by
  have h1 := h.freeze
  have h2 := h1.freeze
  refine ⟨_, h2, h.freezeX.trans h1.freezeX, ?_⟩
  have ne : a ≠ dx := fun e => by
    have nd := h.nd
    simp only [List.map_cons] at nd
    exact (List.nodup_cons.mp nd).1 (by rw [e]; exact List.mem_cons_self ..)
  rw [upd_ne ne]
  exact upd_same
def gMethN (C : Addr) (m : Str) (n j : Nat) (sp : Sp) (gV : List V → List V → List V) (E : L2.St → XK) (ta : TE) (t tk : TA) : TE := fun σ H Q => ta σ H fun x H1 => MethP C m x H1 (t σ H1 fun vs H2 => tk σ H2 fun zs H3 => vs.length = n ∧ zs.length = j ∧ sp (gV (x :: vs) zs) H3 Q (E σ))
def gMakeN (C : Addr) (n j : Nat) (sp : Sp) (gV : List V → List V → List V) (E : L2.St → XK) (t tk : TA) : TE := fun σ H Q => t σ H fun vs H1 => tk σ H1 fun zs H2 => vs.length = n ∧ zs.length = j ∧ MakeP C sp (fun x => gV (x :: vs) zs) H2 Q (E σ)
section
variable {X : Cx} {k n : Nat} {f C : Addr} {ps ks : List Str} {sp : Sp} {E : L2.St → XK} {x m : Str} {p pos apos : Pos} {e o : Expr} {es : List Expr} {kws : List Keyword} {t tk : TA} {ta : TE} {gV : List V → List V → List V}
theorem ge_methN {pl : Sem Bool} (he : PE X o ta) (c : Cls X.K C) (hm : Meth X.K C m f) (F : FnG X.prog X.w X.K X.mg X.base k f ps sp) (hgu : X.A.guards = some []) (hr : Room k X.A) (hb : KB X.K (fdOf X.K f) ps (n + 1) ks gV) (hx : ∀ σ, PassG X σ (E σ)) (ha : PA X (e :: es) t) (hkw : PK X kws tk)
    (hall : (backToKw pos (keywordEach kws X.env)).all (·.1.isSome) = true := by rfl) (hks : (backToKw pos (keywordEach kws X.env)).filterMap (·.1) = ks := by rfl) (hst : starEach (e :: es) X.env = (false, eval e X.env) :: starEach es X.env := by rfl)
    (hpl : ((backTo pos (starEach (e :: es) X.env)).any (·.1) || (backToKw pos (keywordEach kws X.env)).any (·.1.isNone)) = false := by rfl)
    (ht : eval (.Call (.Attribute o m apos) (e :: es) kws pos) X.env = (do
      let ov ← eval o X.env
      standAt apos.atName
      let (f, first) ← holding [ov] (getMethod ov m pl)
      callWith pos f first (backTo pos (starEach (e :: es) X.env)) (backToKw pos (keywordEach kws X.env))) := by rfl) :
    PE X (.Call (.Attribute o m apos) (e :: es) kws pos) (gMethN C m n ks.length sp gV E ta t tk) := by
  refine ⟨fun pins s σ H Q I h => ?_⟩
  refine PySem.W.methodCall_KW (pl := pl) (thn (he.run pins s σ H _ I h) fun u s1 ⟨x, H1, I1, rx, a, dx, fs, ex, ea, l, q⟩ => ?_) ht
  subst ex
  obtain rfl : u = Value.ref a := rx
  refine getmeth_ok I1 ea c hm l ?_
  refine PySem.W.callWith_KW (first := [.ref a]) (h₀ := X.base) I.ok.mod.kin hm.kp hall (thn (ha.run pos pins s1 σ H1 _ I1 q) fun us s2 ⟨vs, H2, I2, r, q2⟩ => ?_) hpl hst
  refine thn (hkw.run pos pins s2 σ H2 _ I2 q2) fun ws s3 ⟨zs, H3, I3, rz, l1, l2, q3⟩ => ⟨I3.kIn, ?_⟩
  rw [hks]
  exact run_gN (us := Value.ref a :: us) (vs := V.ref a :: vs) F hgu hr hb (hx σ) I3 (.cons (show L2.RelV (.ref a) (.ref a) from rfl) r) rz (congrArg Nat.succ l1) l2 q3
theorem run_mk {pins : List (Addr × Obj)} {σ : L2.St} {H : Hp} {s : Shared} {Q : VK} {us ws : List Value} {vs zs : List V} (M : Mk X.K C f) (F : FnG X.prog X.w X.K X.mg X.base k f ps sp) (hgu : X.A.guards = some []) (hr : Room (k + 1) X.A) (hb : KB X.K (fdOf X.K f) ps (n + 1) ks gV) (hx : PassG X σ (E σ))
    (I : Inv X pins σ H s) (r : Vals vs us) (rz : Vals zs ws) (l1 : vs.length = n) (l2 : zs.length = ks.length) (h : MakeP C sp (fun x => gV (x :: vs) zs) H Q (E σ)) : wpAny (model X.prog X.w) X.A (call (.ref C) us (ks.zip ws)) (EP X pins σ Q) X.xe s := by
  obtain ⟨g, hb⟩ := hb
  exact run_makeG M F hgu hr hx I (fun y => gV (y :: vs) zs) (fun y => g (y :: us) ws) (fun y s' KX => hb.to s' (Value.ref y :: us) ws KX (congrArg Nat.succ (r.length.symm.trans l1)) (rz.length.symm.trans l2)) (fun y => hb.rel (.cons (show L2.RelV (.ref y) (.ref y) from rfl) r) rz) h
/-- C(e, .., k = v, ..) -/
theorem ge_makeN (M : Mk X.K C f) (F : FnG X.prog X.w X.K X.mg X.base k f ps sp) (hgu : X.A.guards = some []) (hr : Room (k + 1) X.A) (hg : Gl X x) (hm : X.mg x = some (.ref C)) (hb : KB X.K (fdOf X.K f) ps (n + 1) ks gV) (hx : ∀ σ, PassG X σ (E σ)) (ha : PA X (e :: es) t) (hkw : PK X kws tk)
    (hdb : (x == ("__debug__" : Str)) = false := by decide) (hall : (backToKw pos (keywordEach kws X.env)).all (·.1.isSome) = true := by rfl) (hks : (backToKw pos (keywordEach kws X.env)).filterMap (·.1) = ks := by rfl)
    (he : starEach (e :: es) X.env = (false, eval e X.env) :: starEach es X.env := by rfl)
    (hpl : ((backTo pos (starEach (e :: es) X.env)).any (·.1) || (backToKw pos (keywordEach kws X.env)).any (·.1.isNone)) = false := by rfl) :
    PE X (.Call (.Name x p) (e :: es) kws pos) (gMakeN C n ks.length sp gV E t tk) := by
  refine ⟨fun pins s σ H Q I h => ?_⟩
  refine wpAny_Call_Name_kw (ld_glob I hg hm ?_ hdb)
  refine PySem.W.callWith_KW (h₀ := X.base) I.ok.mod.kin M.kp hall (thn (ha.run pos pins s σ H _ I h) fun us s1 ⟨vs, H1, I1, r, q⟩ => ?_) hpl he
  refine thn (hkw.run pos pins s1 σ H1 _ I1 q) fun ws s2 ⟨zs, H2, I2, rz, l1, l2, q2⟩ => ⟨I2.kIn, ?_⟩
  rw [hks]
  exact run_mk M F hgu hr hb (hx σ) I2 r rz l1 l2 q2
theorem se_methN {σ : L2.St} {H : Hp} {Q : VK} {j : Nat} (h : ta σ H fun x H1 => MethP C m x H1 (t σ H1 fun vs H2 => tk σ H2 fun zs H3 => vs.length = n ∧ zs.length = j ∧ sp (gV (x :: vs) zs) H3 Q (E σ))) : gMethN C m n j sp gV E ta t tk σ H Q := h
theorem se_makeN {σ : L2.St} {H : Hp} {Q : VK} {j : Nat} (h : t σ H fun vs H1 => tk σ H1 fun zs H2 => vs.length = n ∧ zs.length = j ∧ MakeP C sp (fun x => gV (x :: vs) zs) H2 Q (E σ)) : gMakeN C n j sp gV E t tk σ H Q := h
end
def insB (n : Str) (K : PySem.W.Frag) : Bool := He.eqO (PySem.W.findIn K (.ref (He.ga K n)) "__class__") (some (some (.builtin "object.__class__"))) && (He.eqO (PySem.W.specialIn K (.builtin "object.__class__") "__get__") (some (some (.builtin "getset_descriptor.__get__"))) && (eqB (PySem.W.takesIn K (.builtin "object.__class__")) (some true) && eqB (PySem.W.mroIn K (He.ga K n) (.type "object")) (some true)))
theorem ins_ok {K : PySem.W.Frag} {n : Str} (c : Cls K (He.ga K n)) (h : insB n K = true) : InsC K (He.ga K n) := by
  obtain ⟨a, h⟩ := He.ba h
  obtain ⟨b, h⟩ := He.ba h
  obtain ⟨d, e⟩ := He.ba h
  exact ⟨c, He.eqO_ok a, He.eqO_ok b, of_decide_eq_true d, of_decide_eq_true e⟩
def pcB (n : Str) (fl : List Str) (K : PySem.W.Frag) : Bool := fl.all fun f => (He.Fa.noat n f).ok K
theorem pc_ok {K : PySem.W.Frag} {n : Str} {fl : List Str} (c : Cls K (He.ga K n)) (h : pcB n fl K = true) : PC K (He.ga K n) fl := ⟨c, fun f hf => He.noat_ok (List.all_eq_true.mp h f hf)⟩
def neB (n : Str) (K : PySem.W.Frag) : Bool := He.eqO (PySem.W.findIn K (.ref (He.ga K n)) "__ne__") (some (some (.builtin "object.__ne__")))
def nfB (n : Str) (K : PySem.W.Frag) : Bool := seven.all fun t => PySem.W.notFirst K (He.ga K n) (.type t)
def nfC (n x : Str) (K : PySem.W.Frag) : Bool := PySem.W.notFirst K (He.ga K n) (.ref (He.ga K x))
/-- no kit type stands above the class -/
def sbB (n : Str) (K : PySem.W.Frag) : Bool := seven.all fun t => eqB (PySem.W.subIn K (.ref (He.ga K n)) (.type t)) (some false)
def kbB (n : Str) (K : PySem.W.Frag) : Bool := seven.all fun t => eqB (PySem.W.kitOne K (.type t) (.ref (He.ga K n))) (some false)
def kiB (x n : Str) (b : Bool) (K : PySem.W.Frag) : Bool := eqB (PySem.W.kitOne K (.ref (He.ga K x)) (.ref (He.ga K n))) (some b)
inductive RFmt : V → Hp → VK → Prop
  | str {z : Str} {H : Hp} {Q : VK} : z.length ≤ 1000000 → Q (.str z) H → RFmt (.str z) H Q
  | int {i : Int} {H : Hp} {Q : VK} : i.natAbs.log2 < 1920 → Q (.str (toString i)) H → RFmt (.int i) H Q
def tFmtU (te : TE) : TE := fun σ H Q => te σ H fun x H1 => RFmt x H1 Q
theorem sj_nil {σ : L2.St} {H : Hp} {acc : Str} {Q : Str → Hp → Prop} (h : Q acc H) : tJs [] acc σ H Q := h
theorem sj_cons {σ : L2.St} {H : Hp} {acc : Str} {t : TE} {ts : List TE} {Q : Str → Hp → Prop} (h : t σ H fun x H1 => ∃ y : Str, x = .str y ∧ (acc ++ y).length ≤ sizeLine ∧ tJs ts (acc ++ y) σ H1 Q) : tJs (t :: ts) acc σ H Q := h
theorem js_mk {acc z : Str} {P : Str → Prop} (hl : acc.length + z.length ≤ 1000000) (q : P z) : ∃ y : Str, V.str z = .str y ∧ (acc ++ y).length ≤ sizeLine ∧ P y := ⟨z, rfl, small_ok (by rw [len_app]; exact hl), q⟩
theorem se_fmt {te : TE} {σ : L2.St} {H : Hp} {Q : VK} (h : te σ H fun x H1 => RFmt x H1 Q) : tFmtU te σ H Q := h
end Wk
set_option maxRecDepth 100000
set_option maxHeartbeats 4000000
namespace Wk
open PySem PySem.Spec PyProof.Rows L2
def tTryA (tb : WX → TS) (w : Ends → WX) : TS := fun D σ H => tb (w D) D σ H
section
variable {K : PySem.W.Frag} {σ : L2.St} {H : Hp} {Q : VK} {D : Ends} {tb : WX → TS} {w : Ends → WX} {cls : Value} {d : Option Addr} {c : Value} {i : Nat} {ts : Addr → Value → Option Addr → TS} {Wr : WX}
theorem st_try (h : tb (w D) D σ H) : tTryA tb w D σ H := h
end
def ByP (K : PySem.W.Frag) (f : Str) (a : Addr) (cls : Value) (d : Option Addr) (x : V) (H : Hp) (Q : VK) : Prop := x = .ref a ∧ ∃ (C dd : Addr) (v : V), cls = .ref C ∧ ExcC K C ∧ PySem.W.findIn K (.ref C) f = some none ∧ d = some dd ∧ H dd = some (.xd [(f, v)]) ∧ Q v H
def tByX (K : PySem.W.Frag) (f : Str) (a : Addr) (cls : Value) (d : Option Addr) (te : TE) : TE := fun σ H Q => te σ H fun x H1 => ByP K f a cls d x H1 Q
section
variable {K : PySem.W.Frag} {σ : L2.St} {H : Hp} {Q : VK} {te : TE} {f : Str} {a : Addr} {cls : Value} {d : Option Addr}
theorem se_by (h : te σ H fun x H1 => ByP K f a cls d x H1 Q) : tByX K f a cls d te σ H Q := h
end
end Wk
set_option maxRecDepth 100000
set_option maxHeartbeats 4000000
namespace Wk
open PySem PySem.Spec PyProof.Rows L2
section
variable {K : PySem.W.Frag} {σ : L2.St} {H : Hp} {ta tl : TA} {te : TE} {R : It → Hp → Prop} {a b : Addr} {xs ys : List V}
theorem it_zip (h : ta σ H fun vs H1 => ∃ a b xs ys, vs = [.ref a, .ref b] ∧ SqL K H1 a xs ∧ SqL K H1 b ys ∧ R (Itz K a b) H1) : iZip K ta σ H R := h
theorem zip_mk {P : Addr → Addr → Prop} (h1 : H a = some (.lst xs)) (h2 : H b = some (.lst ys)) (q : P a b) : ∃ a' b' xs ys, [V.ref a, V.ref b] = [.ref a', .ref b'] ∧ SqL K H a' xs ∧ SqL K H b' ys ∧ P a' b' := ⟨a, b, xs, ys, rfl, SqL.of h1, SqL.of h2, q⟩
theorem it_enum (h : ta σ H fun vs H1 => ∃ a xs, vs = [.ref a] ∧ SqL K H1 a xs ∧ R (Ite K a) H1) : iEnum K ta σ H R := h
theorem enum_mk {P : Addr → Prop} (h1 : H a = some (.lst xs)) (q : P a) : ∃ a' xs, [V.ref a] = [.ref a'] ∧ SqL K H a' xs ∧ P a' := ⟨a, xs, rfl, SqL.of h1, q⟩
theorem rne_same {z : Str} {Q : VK} (q : Q (.bl false) H) : REq true (.str z) (.str z) H Q := rne_str (by rw [decide_eq_true rfl]; exact q)
theorem req_same {z : Str} {Q : VK} (q : Q (.bl true) H) : REq false (.str z) (.str z) H Q := req_str (by rw [decide_eq_true rfl]; exact q)
theorem it_tup (h : te σ H fun x H1 => ∃ a, x = .ref a ∧ (∃ xs, SqT K H1 a xs) ∧ R (Itt K a) H1) : iTup K te σ H R := h
theorem tupI_mk {P : Addr → Prop} (h : H a = some (.tup xs)) (q : P a) : ∃ b, V.ref a = .ref b ∧ (∃ xs, SqT K H b xs) ∧ P b := ⟨a, rfl, ⟨xs, SqT.of h⟩, q⟩
def tagV : V → Nat
  | .non => 0
  | .bl false => 1
  | .bl true => 2
  | .int _ => 3
  | .str _ => 4
  | .byt _ => 5
  | .flt _ => 6
  | .ref _ => 7
  | .ty _ => 8
theorem if_tagF {x y : V} {A B : Prop} (e : (tagV x == tagV y) = false) (h : B) : if decide (x = y) = true then A else B := by
  rw [if_neg (by
    intro q
    rw [of_decide_eq_true q] at e
    simp at e)]
  exact h
theorem if_tagN {x y : V} {A B : Prop} (e : (tagV x == tagV y) = false) (h : A) : if (!decide (x = y)) = true then A else B := by
  have : decide (x = y) = false := decide_eq_false fun q => by
    rw [q] at e
    simp at e
  rw [this]
  exact h
theorem if_kT {k : Knd} {n : String} {A B : Prop} (e : k.is n = true) (h : A) : if k.is n = true then A else B := by rw [if_pos e]; exact h
theorem if_kF {k : Knd} {n : String} {A B : Prop} (e : k.is n = false) (h : B) : if k.is n = true then A else B := by rw [if_neg (by rw [e]; decide)]; exact h
theorem if_nkT {k : Knd} {n : String} {A B : Prop} (e : k.is n = true) (h : B) : if (!k.is n) = true then A else B := by rw [e]; exact h
theorem if_nkF {k : Knd} {n : String} {A B : Prop} (e : k.is n = false) (h : A) : if (!k.is n) = true then A else B := by rw [e]; exact h
theorem if_notT {A B : Prop} (h : B) : if (!true) = true then A else B := h
theorem if_notF {A B : Prop} (h : A) : if (!false) = true then A else B := h
end
section
variable {J : It} {n : Nat} {G : Hp → Prop} {Y : Nat → Hp → V → Hp → Prop} {g : TG} {tb : TS} {D : Ends} {σ : L2.St} {H D0 : Hp} {R0 : Cells} {tt : TT} {te : TE} {vs : List Nat} {Q : VK} {K : PySem.W.Frag} {a b : Addr} {xs ys : List V}
theorem for_enum (I : Nat → L2.St → Cells → Hp → Prop) (hi : HI H R0 D0) (h0 : I 0 σ R0 D0) (hl : ∀ i σ R Dd, I i σ R Dd → Dd a = some (.lst xs))
    (hs : ∀ (i : Nat) x T σ R Dd Dd' H, xs[i]? = some x → HI H R Dd' → Ex Dd Dd' → Dd' T = some (.tup [.int i, x]) → I i σ R Dd → g (.ref T) σ H fun σ2 H2 => tb { D with nx := NX I (i + 1), ct := NX I (i + 1), bk := D.nx } σ2 H2)
    (hd : ∀ σ R Dd H, HI H R Dd → I xs.length σ R Dd → D.nx σ H) : ForK (Ite K a) g tb D σ H :=
  for_hi walk_enum I hi h0 (fun i σ R Dd H _ q p => SqL.of (q.dat (hl i σ R Dd p))) (fun i v σ R Dd H H' hn1 hi1 b y => by
    obtain ⟨T, x, z, rfl, hT, rfl, e1, e2⟩ := y
    cases e1
    exact hs i z T σ R Dd _ _ e2 (hi1.newD hT) (Ex.new (hi1.free hT)) upd_same b) hd
theorem for_tup (I : Nat → L2.St → Cells → Hp → Prop) (hi : HI H R0 D0) (h0 : I 0 σ R0 D0) (hl : ∀ i σ R Dd, I i σ R Dd → Dd a = some (.tup xs))
    (hs : ∀ (i : Nat) x σ R Dd H, xs[i]? = some x → HI H R Dd → I i σ R Dd → g x σ H fun σ2 H2 => tb { D with nx := NX I (i + 1), ct := NX I (i + 1), bk := D.nx } σ2 H2) (hd : ∀ σ R Dd H, HI H R Dd → I xs.length σ R Dd → D.nx σ H) : ForK (Itt K a) g tb D σ H :=
  for_hi walk_tup I hi h0 (fun i σ R Dd H _ q p => SqT.of (q.dat (hl i σ R Dd p))) (fun i x σ R Dd H H' hn a b y => by
    obtain ⟨rfl, y⟩ := y
    exact hs i x σ R Dd H' y a b) hd
theorem lc_tup (I : Nat → List V → Cells → Hp → Prop) (hi : HI H R0 D0) (h0 : I 0 [] R0 D0) (hl : ∀ i acc R Dd, I i acc R Dd → Dd a = some (.tup xs))
    (hs : ∀ L i acc x R Dd H, xs[i]? = some x → HI H ((L, .lst acc) :: R) Dd → I i acc R Dd → acc.length ≤ i → g x (wipe σ vs) H fun σ2 H2 => wipe σ2 vs = wipe σ vs ∧ tt σ2 H2 fun b H3 => if b = true then te σ2 H3 (LE L I (i + 1)) else PW' L I (i + 1) H3)
    (hd : ∀ L acc R Dd H, HI H ((L, .lst acc) :: R) Dd → I xs.length acc R Dd → acc.length ≤ xs.length → Q (.ref L) H) : LcK (Itt K a) g tt te vs σ H Q :=
  lc_hi walk_tup I hi h0 (fun i acc R Dd H _ q p => SqT.of (q.dat (hl i acc R Dd p))) (fun L i acc x R Dd H H' hn a b c y => by
    obtain ⟨rfl, y⟩ := y
    exact hs L i acc x R Dd H' y a b c) hd
end
theorem atI_mapI {α β : Type} {f : α → β} {xs : List α} {i : Int} {x : α} (h0 : 0 ≤ i) (h : xs[i.toNat]? = some x) : atI (xs.map f) i = some (f x) := by
  rw [atI_ofI h0, List.getElem?_map, h]
  rfl
theorem atI_last {α : Type} {xs : List α} {x : α} : atI (xs ++ [x]) (-1) = some x := by
  unfold atI ixN
  rw [if_neg (by decide), if_pos (by rw [List.length_append, List.length_singleton]; omega)]
  have e : ((-1 : Int) + ((xs ++ [x]).length : Int)).toNat = xs.length := by rw [List.length_append, List.length_singleton]; omega
  rw [Option.bind_some, e]
  simp
theorem atI_lastM {α β : Type} {f : α → β} {xs : List α} {x : α} : atI ((xs ++ [x]).map f) (-1) = some (f x) := by
  rw [List.map_append]
  exact atI_last
theorem HI.sublist {H D : Hp} {R R' : Cells} (h : HI H R D) (s : R'.Sublist R) : HI H R' D := ⟨(s.map _).nodup h.nd, fun p hp => h.cell p (s.subset hp), h.sub⟩
theorem HI.fr1 {H D : Hp} {R : Cells} {a : Addr} {o : HO} (h : HI H ((a, o) :: R) D) : ∃ D', HI H R D' ∧ Ex D D' ∧ D' a = some o := ⟨_, h.freeze, h.freezeX, upd_same⟩
end Wk
set_option maxRecDepth 100000
set_option maxHeartbeats 4000000
namespace Wk
open PySem PySem.Spec PyProof.Rows L2
/-- the class's name as repr shows it -/
def exHd (K : PySem.W.Frag) (C : Addr) : Str := match K.lookup C with
  | some ⟨_, _, .cls cd, _⟩ => excReprHead cd.name.toString
  | _ => ""
/-- what the written part says of the class, so that repr may show its instances -/
structure ExQ (K : PySem.W.Frag) (C : Addr) : Prop where
  o : OexC K C
  hr : PySem.W.findIn K (.ref C) "__repr__" = some (some (.builtin "BaseException.__repr__"))
  hl : (exHd K C).length ≤ 100
section
variable {prog : Program} {w : World} {A : Around} {E : Value → Shared → Prop} {s : Shared} {K : PySem.W.Frag} {C e t1 : Addr} {ox : Obj} {od : Option Obj} {m : Str} {tk : Tok}
open PySem.W PySem.Calls Builtin Builtin.BaseException Builtin.Exceptions
theorem csibBy {M : Model} {last : Value → List Value → Sem Value} {self : Value} {name : PySem.Str} {id : String} {Q : Option Value → Shared → Prop} (sp : Looks M s.heap (specialOf self name) (some (.builtin id))) (hb : bindSpecial (.builtin id) self = pure (.builtin id, [self]))
    (hc : wpAny M A (last (.builtin id) [self]) (fun v => Q (some v)) E s) : wpAny M A (callSpecialIfBoundBy? last self name) Q E s := by
  simp only [callSpecialIfBoundBy?, bindSpecialIfBound?]
  refine wpAny_holding (wpAny_bind (wpAny_bind (sp.here ?_)))
  refine wpAny_bind (wpAny_askSetting (wpAny_ite ?_))
  have fin : wpAny M A (last (.builtin id) [self] >>= fun v => pure (some v)) Q E s := wpAny_bind (wpAny_mono hc (fun v s' h' => wpAny_pure h') fun _ _ h' => h')
  split
  · exact wpAny_bind (wpAny_of_eq hb (wpAny_pure (by exact fin)))
  · exact wpAny_tryCatch (wpAny_bind (wpAny_of_eq hb (wpAny_pure (by exact fin))))
/-- an exception of the class at C, its args one text -/
structure XAt (K : PySem.W.Frag) (C : Addr) (h : Heap) (e : Addr) (m : Str) (tk : Tok) : Prop where
  q : ExQ K C
  k : K.In h
  i : ∃ t1 d, h.get? e = some ({ cls := .ref C, dict := d, data := .fields #[.ref t1, .none, .none, .none, .bool false, .none] } : Obj) ∧ h.TupAt t1 [.str m tk]
theorem XAt.keeps {h h' : Heap} (x : XAt K C h e m tk) (k : ∀ b o, h.get? b = some o → h'.get? b = some o) : XAt K C h' e m tk := by
  obtain ⟨q, X, t1, d, e1, e2⟩ := x
  exact ⟨q, X.keeps k, t1, d, k _ _ e1, e2.keeps k⟩
theorem XAt.type {M : Model} {h : Heap} (x : XAt K C h e m tk) : Looks M h (typeOf (.ref e)) (.ref C) := by
  obtain ⟨q, X, t1, d, e1, e2⟩ := x
  exact (Looks.ld e1).andThen .now
theorem XAt.sub {M : Model} {h : Heap} (x : XAt K C h e m tk) : Looks M h (isInstance (.ref e) (.type "BaseException")) true := x.type.andThen (looks_subIn x.k x.q.o.exC)
theorem bexc_bind (self : Value) : bindSpecial (.builtin "BaseException.__repr__") self = pure (.builtin "BaseException.__repr__", [self]) := by
  rfl
theorem XAt.hd {h : Heap} (x : XAt K C h e m tk) : ∃ cd, PySem.W.clsIn K C = some cd ∧ exHd K C = excReprHead cd.name.toString := by
  obtain ⟨q, X, t1, d, e1, ot, n, e2, e3, e4⟩ := id x
  obtain ⟨nm, qq, N, bs, bm, sn, sub, ab, col, dd, k0, k1, k2, k3, k5, hC, hbm⟩ := q.o.cls
  refine ⟨{ name := nm, bases := bs, mro := .ref C :: bm, ns := N, qualname := qq, hasDict := true, slotNames := sn, subclasses := sub, abstract := ab, collection := col, hasDel := false }, by unfold PySem.W.clsIn; rw [hC] <;> rfl, ?_⟩
  unfold exHd
  rw [hC]
theorem xat_name {M : Model} {Q : String → Shared → Prop} {cd : ClassData} (x : XAt K C s.heap e m tk) (hc : PySem.W.clsIn K C = some cd) (hq : Q cd.name.toString s) : wpAny M A (typeNameOfWhole (.ref e)) Q E s := by
  unfold typeNameOfWhole shownTypeOf
  refine wpAny_bind (wpAny_bind (x.type.here ?_))
  have ne : (Value.ref C == Value.type "builtin_function_or_method") = false := rfl
  simp only [ne, Bool.false_eq_true, if_false]
  refine wpAny_pure ?_
  unfold typeNameWhole
  refine wpAny_bind ((looks_clsIn x.k hc).here ?_)
  exact wpAny_pure hq
theorem xat_args {M : Model} {Q : Value × List Value → Shared → Prop} (x : XAt K C s.heap e m tk) (hq : ∀ t1, Q (.ref t1, [.str m tk]) s) : wpAny M A (bexcArgs (.ref e)) Q E s := by
  obtain ⟨q, X, t1, d, e1, ot, n, e2, e3, e4⟩ := id x
  unfold bexcArgs
  refine wpAny_bind (wpAny_field e1 rfl (x := .ref t1) rfl (wpAny_bind (wpAny_seqItems e2 e4 ?_)))
  exact wpAny_pure (hq t1)
theorem xat_body (b : Nat) {Q : Fin → Shared → Prop} (x : XAt K C s.heap e m tk)
    (hq : Q (.done (.ret (.str (exHd K C ++ "(" ++ reprText m ++ ")") (s.toks + 1)))) { s with toks := s.toks + 1 + 1 }) (hsz : b + (exHd K C ++ "(" ++ reprText m ++ ")").length ≤ sizeLine) :
    wpAny (model prog w) A (Builtin.bexcReprAt b ⟨[.ref e], []⟩) Q E s := by
  obtain ⟨cd, hc, hd⟩ := x.hd
  rw [hd] at hq hsz
  have e1 : b + (Str.ofString ((cd.name.toString.cutAt '.').getLastD "") ++ Str.ofString "(" ++ reprText m ++ Str.ofString ")").length ≤ sizeLine := hsz
  have hsz2 : (Str.ofString ((cd.name.toString.cutAt '.').getLastD "") ++ Str.ofString "(" ++ reprText m ++ Str.ofString ")").length ≤ sizeLine := Nat.le_trans (Nat.le_add_left _ b) e1
  have eP : (Str.ofString "(").length = 1 := by rw [PySem.ofString_length]; rfl
  rw [strLen_append, strLen_append, strLen_append, eP] at e1
  have hsz1 : (reprText m).length ≤ sizeLine := by omega
  have hpile : b + ((Str.ofString ((cd.name.toString.cutAt '.').getLastD "")).length + 1) ≤ sizeLine := by omega
  unfold Builtin.bexcReprAt
  repeat (first | with_reducible refine xat_name x hc ?_ | (with_reducible refine xat_args x ?_; intro t1) | rw [pyReprUnder_leaf (v := .str m tk) hpile (by intro a; nofun)] | with_reducible refine wpAny_pyRepr_str ?_ | wp_step)
  exact hq
theorem xat_under {b : Nat} {Q : Str → Shared → Prop} (hu : A.units < cLine) (x : XAt K C s.heap e m tk)
    (hq : Q (exHd K C ++ "(" ++ reprText m ++ ")") { s with toks := s.toks + 1 + 1 }) (hsz : b + (exHd K C ++ "(" ++ reprText m ++ ")").length ≤ sizeLine) : wpAny (model prog w) A (pyReprUnder b (.ref e)) Q E s := by
  refine wpAny_pyReprUnder_ref (by omega) ?_
  unfold pyReprObjUnder pyReprObjBy
  refine wpAny_bind (wpAny_cRoomFor hu ?_)
  have sp : ∀ M : Model, Looks M s.heap (specialOf (.ref e) "__repr__") (some (.builtin "BaseException.__repr__")) := fun M => x.type.andThen (looks_findIn x.k x.q.hr)
  refine wpAny_bind ((sp _).here ?_)
  refine wpAny_bind (csibBy (sp _) (bexc_bind _) ?_)
  show wpAny _ _ (call (.builtin "BaseException.__repr__.under") [.ref e, rawInt b]) _ _ _
  refine wpAny_call (codeAny_call_builtin F.plain_bexc_repr_under F.entry_bexc_repr_under ?_)
  rw [F.check_bexc_repr_under]
  refine wpAny_pure ?_
  show wpAny _ _ (reprTwin "BaseException.__repr__" bexcReprAt ⟨[.ref e, rawInt b], []⟩) _ _ _
  rw [reprTwin_eq]
  refine wpAny_bind (@check_slot (model prog w) _ _ s "BaseException.__repr__" "BaseException" "__repr__" (.ref e) [] [] _ (by decide +kernel) (by decide +kernel) x.sub (F.args_bexc_repr _) ?_)
  refine xat_body b x ?_ hsz
  refine wpAny_bind (wpAny_isInstance (T := "str") (b := true) rfl isSubtype_str_str ?_)
  exact wpAny_pure ⟨_, _, rfl, hq⟩
end
end Wk
set_option maxRecDepth 100000
set_option maxHeartbeats 4000000
namespace Wk
open PySem PySem.Spec PyProof.Rows L2 PySem.NumText
abbrev tl' (z : Str) : List Nat := z.cps.toList
def oV : Option Int → V
  | none => .non
  | some i => .int i
theorem sIx_le' (n d : Nat) (k : Nat) : HT.sIx n d (some (k : Int)) = min k n := HT.sIx_nat n d k
theorem cut_take (z : Str) (k : Nat) : tl' (cutS z none (some (k : Int))) = (tl' z).take k := by
  have hl : z.cps.toList.length = z.length := rfl
  show ((z.cps.toList.drop (HT.sIx z.length 0 none)).take (HT.sIx z.length z.length (some (k : Int)) - HT.sIx z.length 0 none)) = z.cps.toList.take k
  rw [sIx_le', HT.sIx_none, List.drop_zero, Nat.sub_zero]
  by_cases h : k ≤ z.length
  · rw [Nat.min_eq_left h]
  · rw [Nat.min_eq_right (by omega), List.take_of_length_le (by rw [hl]; omega), List.take_of_length_le (by rw [hl]; omega)]
/-- a leading minus -/
def neg (l : List Nat) : Bool := decide (l.head? = some 45)
instance : DecidablePred AllDigits := fun l => inferInstanceAs (Decidable (∀ c ∈ l, 48 ≤ c ∧ c ≤ 57))
end Wk
set_option maxRecDepth 100000
set_option maxHeartbeats 4000000
namespace Wk
open PySem PySem.Spec PyProof.Rows L2
def LP (P : Nat → Prop) (z : Str) : Prop := ∀ c ∈ z.cps.toList, P c
section
variable {P : Nat → Prop}
theorem LP.app {a b : Str} (h : LP P a) (k : LP P b) : LP P (a ++ b) := fun c hc => by
  rw [tl_app] at hc
  rcases List.mem_append.mp hc with h1 | h1
  · exact h c h1
  · exact k c h1
theorem LP.cut {z : Str} (h : LP P z) (lo hi : Option Int) : LP P (cutS z lo hi) := fun c hc => by
  unfold cutS at hc
  simp only at hc
  exact h c (List.mem_of_mem_drop (List.mem_of_mem_take (by simpa using hc)))
theorem LP.one {z : Str} {c : Nat} (h : LP P z) (m : c ∈ z.cps.toList) : LP P ⟨#[c]⟩ := fun d hd => by
  simp at hd
  rw [hd]
  exact h c m
def OnesP (P : Nat → Prop) (ys : List Str) : Prop := ∀ y ∈ ys, y.length = 1 ∧ LP P y
theorem OnesP.sum : ∀ {ys : List Str}, OnesP P ys → (ys.map (·.length)).sum = ys.length
  | [], _ => rfl
  | y :: ys, h => by
    have ih := OnesP.sum (ys := ys) fun z hz => h z (List.mem_cons_of_mem _ hz)
    have e := (h y (List.mem_cons_self ..)).1
    simp only [List.map_cons, List.sum_cons, List.length_cons, ih, e]
    omega
theorem OnesP.nil : OnesP P [] := fun y hy => by cases hy
theorem OnesP.snoc {ys : List Str} {z : Str} {c : Nat} (h : OnesP P ys) (hz : LP P z) (m : c ∈ z.cps.toList) : OnesP P (ys ++ [⟨#[c]⟩]) := fun y hy => by
  rcases List.mem_append.mp hy with h1 | h1
  · exact h y h1
  · rw [List.mem_singleton.mp h1]
    exact ⟨rfl, hz.one m⟩
theorem onesP_join : ∀ {ys : List Str}, OnesP P ys → (Txt.join "" ys).length = ys.length ∧ LP P (Txt.join "" ys)
  | [], _ => ⟨rfl, fun c hc => by simp [Txt.join, Builtin.Str.glued, Str.empty] at hc⟩
  | [y], h => by
    rw [TL.join_eq]
    show y.length = 1 ∧ LP P y
    exact h y (List.mem_cons_self ..)
  | x :: y :: r, h => by
    have ih := onesP_join (ys := y :: r) fun z hz => h z (List.mem_cons_of_mem _ hz)
    have hx := h x (List.mem_cons_self ..)
    rw [TL.join_eq] at ih ⊢
    show (x ++ "" ++ Str.join "" (y :: r)).length = _ ∧ LP P (x ++ "" ++ Str.join "" (y :: r))
    have e : (x ++ ("" : Str)) = x := PySem.Str.append_empty x
    rw [e, len_app, ih.1, hx.1]
    refine ⟨by simp only [List.length_cons]; omega, hx.2.app ih.2⟩
theorem len_tl (z : Str) : (tl' z).length = z.length := rfl
theorem cut_mid_len {z : Str} {a b : Int} (a0 : 0 ≤ a) (ab : a ≤ b) : ((cutS z (some a) (some b)).length : Int) ≤ b - a := by
  obtain ⟨m, rfl⟩ := Int.eq_ofNat_of_zero_le a0
  obtain ⟨n, rfl⟩ := Int.eq_ofNat_of_zero_le (Int.le_trans a0 ab)
  show (((z.cps.toList.drop (HT.sIx z.length 0 (some (m : Int)))).take (HT.sIx z.length z.length (some (n : Int)) - HT.sIx z.length 0 (some (m : Int)))).toArray.size : Int) ≤ (n : Int) - m
  rw [List.size_toArray, List.length_take, sIx_le', sIx_le']
  omega
theorem cut_to_len {z : Str} {k : Int} (k0 : 0 ≤ k) : ((cutS z none (some k)).length : Int) ≤ k ∧ (k ≤ z.length → ((cutS z none (some k)).length : Int) = k) := by
  obtain ⟨n, rfl⟩ := Int.eq_ofNat_of_zero_le k0
  have e := congrArg List.length (cut_take z n)
  rw [List.length_take, len_tl, len_tl] at e
  omega
/-- one more name -/
theorem names_snoc {P : Str → Prop} {ys : List Str} {y : Str} {j : Nat} (h : ∀ y ∈ ys, P y) (hl : ys.length = j) (hy : P y) : (∀ z ∈ ys ++ [y], P z) ∧ (ys ++ [y]).length = j + 1 := by
  refine ⟨fun z hz => ?_, by rw [List.length_append, hl]; rfl⟩
  rcases List.mem_append.mp hz with q | q
  · exact h z q
  · rw [List.mem_singleton.mp q]
    exact hy
end
inductive RSplit : V → List V → Hp → VK → Prop
  | mk {z y : Str} {H : Hp} {Q : VK} : (y.length == 0) = false → z.length + 2 ≤ 1000000 → AlD (.lst ((Txt.split z y).map V.str)) H Q → RSplit (.str z) [.str y] H Q
theorem mt_splitU {X : Cx} : MtR X "str.split" RSplit := by
  intro pins s σ H x xs v us Q I rx rs h
  cases h with
  | mk h1 h2 q => exact mt_split pins s σ H _ _ v us Q I rx rs ⟨_, _, rfl, rfl, h1, small_ok h2, q⟩
inductive RListO : List V → Hp → VK → Prop
  | l {p : Addr} {xs : List V} {H : Hp} {Q : VK} : H p = some (.lst xs) → AlD (.lst xs) H Q → RListO [.ref p] H Q
  | t {p : Addr} {xs : List V} {H : Hp} {Q : VK} : H p = some (.tup xs) → AlD (.lst xs) H Q → RListO [.ref p] H Q
theorem call_listU {X : Cx} : CallR X (.type "list") RListO := by
  intro pins s σ H xs us Q I r h
  cases h with
  | l e q => exact call_list_of pins s σ H _ us Q I r ⟨_, _, rfl, .inl (SqL.of e), q⟩
  | t e q => exact call_list_of pins s σ H _ us Q I r ⟨_, _, rfl, .inr (SqT.of e), q⟩
inductive RTupO : List V → Hp → VK → Prop
  | l {p : Addr} {xs : List V} {H : Hp} {Q : VK} : H p = some (.lst xs) → AlD (.tup xs) H Q → RTupO [.ref p] H Q
section
variable {K : PySem.W.Frag} {σ : L2.St} {H D : Hp} {R : Cells} {Q : VK} {p : Addr} {xs : List V} {v : V} {to : TE} {t : TA} {r : V → List V → Hp → VK → Prop} {T : String}
theorem se_bm (h : to σ H fun x H1 => tyV K T x H1 ∧ t σ H1 fun xs H2 => r x xs H2 Q) : tBM K T r to t σ H Q := h
theorem se_bm0 (h : to σ H fun x H1 => tyV K T x H1 ∧ r x [] H1 Q) : tBM0 K T r to σ H Q := h
theorem bm_ty {A : Prop} (e : H p = some (.lst xs)) (h : A) : tyV K "list" (.ref p) H ∧ A := ⟨.inl ⟨rfl, xs, SqL.of e⟩, h⟩
theorem app_now (hi : HI H ((p, .lst xs) :: R) D) (hl : xs.length < 1000000) (k : ∀ H', HI H' ((p, .lst (xs ++ [v])) :: R) D → Q .non H') : rAppend (.ref p) [v] H Q :=
  ⟨p, xs, v, rfl, rfl, hi.get (List.mem_cons_self ..), by rw [sizeLine_eq]; omega, k _ hi.set⟩
end
theorem ints_rep {H : Hp} : ∀ ks : List Int, RepL H (ks.map V.int) (ks.map PyData.int)
  | [] => .nil
  | k :: ks => .cons (.int k) (ints_rep ks)
theorem ints_dict : ∀ ks : List Int, PyData.hasDictAll (ks.map PyData.int) = false
  | [] => by simp [PyData.hasDictAll]
  | k :: ks => by
    have := ints_dict ks
    simp [PyData.hasDictAll, PyData.hasDict, this]
theorem ints_lay : ∀ ks : List Int, PyData.canLayAll0 (ks.map PyData.int) = true
  | [] => by simp [PyData.canLayAll0]
  | k :: ks => by
    have := ints_lay ks
    simp [PyData.canLayAll0, PyData.canLay0, this]
theorem ints_depth : ∀ ks : List Int, PyData.depthAll (ks.map PyData.int) = 0
  | [] => by simp [PyData.depthAll]
  | k :: ks => by
    have := ints_depth ks
    simp [PyData.depthAll, PyData.depth, this]
theorem rne_ints_nil {H : Hp} {Q : VK} {p q : Addr} {ks : List Int} (e1 : H p = some (.lst (ks.map V.int))) (e2 : H q = some (.lst [])) (g : Q (.bl (!ks.isEmpty)) H) : REq true (.ref p) (.ref q) H Q := by
  refine rne_dat (d := .list (ks.map PyData.int)) (e := .list []) (.lst e1 (ints_rep ks)) (.lst e2 .nil) (by simp [PyData.hasDict, ints_dict]) (by simp [PyData.hasDict, PyData.hasDictAll]) (by simp [SeqAt.shaped, PyData.canLay0, ints_lay, PyData.depth, ints_depth]) (by decide +kernel) ?_
  have e : PyData.eqv (.list (ks.map PyData.int)) (.list []) = ks.isEmpty := by cases ks <;> simp [PyData.eqv, PyData.eqvAll]
  rw [e]
  exact g
inductive RListM : List V → Hp → VK → Prop
  | l {p : Addr} {xs : List V} {H : Hp} {Q : VK} : H p = some (.lst xs) → AlM (.lst xs) H Q → RListM [.ref p] H Q
end Wk
set_option maxRecDepth 100000
set_option maxHeartbeats 4000000
namespace Wk
open PySem PySem.Spec PyProof.Rows L2
theorem join_len (sep : Str) : ∀ ys : List Str, (Str.join sep ys).length ≤ (ys.map (·.length)).sum + ys.length * sep.length
  | [] => Nat.zero_le _
  | [y] => by
    show y.length ≤ _
    simp
  | x :: y :: r => by
    have ih := join_len sep (y :: r)
    show (x ++ sep ++ Str.join sep (y :: r)).length ≤ _
    rw [len_app, len_app]
    simp only [List.map_cons, List.sum_cons, List.length_cons, Nat.add_mul, Nat.one_mul] at ih ⊢
    omega
theorem repr_len {z : Str} (h : Sg z) : (reprText z).length ≤ 10 * z.length + 2 := PySem.StrLaws.reprText_len z fun c hc => by
  have := h c hc
  omega
end Wk
set_option maxRecDepth 100000
set_option maxHeartbeats 4000000
namespace Wk
open PySem PySem.Spec PyProof.Rows L2
structure Sm (d : PyData) (n k : Nat) : Prop where
  s : d.showable = true
  l : d.shown.length ≤ n
  d : d.depth ≤ k
theorem Sm.mono {d : PyData} {n k n' k' : Nat} (h : Sm d n k) (a : n ≤ n') (b : k ≤ k') : Sm d n' k' := ⟨h.s, Nat.le_trans h.l a, Nat.le_trans h.d b⟩
theorem Sm.non : Sm .none 4 0 := ⟨rfl, by decide +kernel, Nat.le_refl _⟩
theorem Sm.bl (b : Bool) : Sm (.bool b) 5 0 := by cases b <;> exact ⟨rfl, by decide +kernel, Nat.le_refl _⟩
theorem Sm.int {i : Int} (h : i.natAbs < 10 ^ 30) : Sm (.int i) 31 0 := ⟨decide_eq_true (log2_small (by omega)), (tst h).1, Nat.le_refl _⟩
theorem Sm.str {z : Str} (h : Sg z) : Sm (.str z) (10 * z.length + 2) 0 := ⟨by simp [PyData.showable], repr_len h, by simp [PyData.depth]⟩
theorem sm_all {n k : Nat} : ∀ {ds : List PyData}, (∀ d ∈ ds, Sm d n k) → PyData.showableAll ds = true ∧ (((PyData.shownAll ds).map (·.length)).sum ≤ n * ds.length ∧ (PyData.shownAll ds).length = ds.length) ∧ PyData.depthAll ds ≤ k
  | [], _ => ⟨rfl, ⟨Nat.zero_le _, rfl⟩, Nat.zero_le _⟩
  | d :: ds, h => by
    obtain ⟨a, ⟨b, c⟩, e⟩ := sm_all (ds := ds) fun x hx => h x (List.mem_cons_of_mem _ hx)
    obtain ⟨a1, b1, e1⟩ := h d (List.mem_cons_self ..)
    refine ⟨?_, ⟨?_, ?_⟩, ?_⟩
    · simp only [PyData.showableAll, a1, a, Bool.and_self]
    · simp only [PyData.shownAll, List.map_cons, List.sum_cons, List.length_cons, Nat.mul_succ]
      omega
    · simp only [PyData.shownAll, List.length_cons, c]
    · simp only [PyData.depthAll]
      omega
theorem Sm.list {n k : Nat} {ds : List PyData} (h : ∀ d ∈ ds, Sm d n k) : Sm (.list ds) (n * ds.length + 2 * ds.length + 3) (k + 1) := by
  obtain ⟨a, ⟨b, c⟩, e⟩ := sm_all h
  refine ⟨by simpa only [PyData.showable] using a, ?_, by simp only [PyData.depth]; omega⟩
  have jl := PySem.listText_len_le (PyData.shownAll ds)
  rw [c] at jl
  have e4 : (PyData.list ds).shown = PySem.listText (PyData.shownAll ds) := by simp only [PyData.shown]
  rw [e4]
  omega
theorem Sm.tuple {n k : Nat} {ds : List PyData} (h : ∀ d ∈ ds, Sm d n k) : Sm (.tuple ds) (n * ds.length + 2 * ds.length + 3) (k + 1) := by
  obtain ⟨a, ⟨b, c⟩, e⟩ := sm_all h
  refine ⟨by simpa only [PyData.showable] using a, ?_, by simp only [PyData.depth]; omega⟩
  have jl := join_len (Str.ofString ", ") (PyData.shownAll ds)
  have e1 : (Str.ofString ", ").length = 2 := rfl
  have e2 : (Str.ofString "(").length = 1 := rfl
  have e3 : (Str.ofString ")").length = 1 := rfl
  have e4 : (Str.ofString ",)").length = 2 := rfl
  rw [e1, c] at jl
  match ds, jl, b, c with
  | [], jl, b, c => exact Nat.le_trans (show (PyData.shown (.tuple [])).length ≤ 3 by decide +kernel) (by omega)
  | [x], jl, b, c =>
    have b' : x.shown.length ≤ n := by simpa [PyData.shownAll] using b
    show ((Str.ofString "(") ++ x.shown ++ (Str.ofString ",)")).length ≤ _
    rw [len_app, len_app, e2, e4]
    simp only [List.length_cons, List.length_nil]
    omega
  | x :: y :: r, jl, b, c =>
    show ((Str.ofString "(") ++ Str.join (Str.ofString ", ") (PyData.shownAll (x :: y :: r)) ++ (Str.ofString ")")).length ≤ _
    rw [len_app, len_app, e2, e3]
    omega
theorem line_ok {n : Nat} (h : n ≤ 16777216) : n ≤ sizeLine := by
  rw [sizeLine_eq]
  exact h
theorem repr_sm {H : Hp} {Q : VK} {x : V} {d : PyData} {n k : Nat} (h : Rep H x d) (s : Sm d n k) (hn : n ≤ 16777216) (hk : k ≤ 60) (q : Q (.str d.shown) H) : rRepr [x] H Q := ⟨x, d, rfl, h, s.s, line_ok (Nat.le_trans s.l hn), Nat.le_trans s.d hk, q⟩
end Wk
set_option maxRecDepth 100000
set_option maxHeartbeats 4000000
namespace Wk
open PySem PySem.Spec PyProof.Rows L2
inductive KT : Key → Str → Prop
  | int (i : Int) (h : i.natAbs.log2 < 1920) : KT (.inl i) (toString i)
  | str (x : Str) : KT (.inr x) (reprText x)
mutual
/-- what repr shows of v, and how deep it goes -/
inductive Shw (K : PySem.W.Frag) (H : Hp) : V → Str → Nat → Prop
  | non : Shw K H .non "None" 0
  | bl (b : Bool) : Shw K H (.bl b) (if b then "True" else "False") 0
  | int (i : Int) (h : i.natAbs.log2 < 1920) : Shw K H (.int i) (toString i) 0
  | str (x : Str) : Shw K H (.str x) (reprText x) 0
  | exc {a d C t1 : Addr} {z : Str} (e : H a = some (exq a C (some d) t1)) (e2 : H t1 = some (.tup [.str z])) (q : ExQ K C) : Shw K H (.ref a) (exHd K C ++ "(" ++ reprText z ++ ")") 1
  | lst {a : Addr} {vs : List V} {ts : List Str} {n : Nat} (e : H a = some (.lst vs)) (l : ShwL K H vs ts n) : Shw K H (.ref a) (listText ts) (n + 1)
  | tup {a : Addr} {vs : List V} {ts : List Str} {n : Nat} (e : H a = some (.tup vs)) (l : ShwL K H vs ts n) : Shw K H (.ref a) (tupleText ts) (n + 1)
  | dict {a : Addr} {kvs : List (Key × V)} {ts : List Str} {n : Nat} (e : H a = some (.dK kvs)) (l : ShwK K H kvs ts n) : Shw K H (.ref a) (dictText ts) (n + 1)
inductive ShwL (K : PySem.W.Frag) (H : Hp) : List V → List Str → Nat → Prop
  | nil : ShwL K H [] [] 0
  | cons {v : V} {vs : List V} {t : Str} {ts : List Str} {m n : Nat} (h : Shw K H v t m) (l : ShwL K H vs ts n) : ShwL K H (v :: vs) (t :: ts) (max m n)
inductive ShwK (K : PySem.W.Frag) (H : Hp) : List (Key × V) → List Str → Nat → Prop
  | nil : ShwK K H [] [] 0
  | cons {k : Key} {v : V} {kvs : List (Key × V)} {kt t : Str} {ts : List Str} {m n : Nat} (kk : KT k kt) (h : Shw K H v t m) (l : ShwK K H kvs ts n) : ShwK K H ((k, v) :: kvs) ((kt ++ ": " ++ t) :: ts) (max m n)
end
section
variable {K : PySem.W.Frag} {H H' : Hp}
mutual
theorem Shw.mono (x : Ex H H') : ∀ {v : V} {t : Str} {n : Nat}, Shw K H v t n → Shw K H' v t n
  | _, _, _, .non => .non
  | _, _, _, .bl b => .bl b
  | _, _, _, .int i h => .int i h
  | _, _, _, .str z => .str z
  | _, _, _, .exc e e2 q => .exc (x _ _ e) (x _ _ e2) q
  | _, _, _, .lst e l => .lst (x _ _ e) (ShwL.mono x l)
  | _, _, _, .tup e l => .tup (x _ _ e) (ShwL.mono x l)
  | _, _, _, .dict e l => .dict (x _ _ e) (ShwK.mono x l)
theorem ShwL.mono (x : Ex H H') : ∀ {v : List V} {t : List Str} {n : Nat}, ShwL K H v t n → ShwL K H' v t n
  | _, _, _, .nil => .nil
  | _, _, _, .cons h l => .cons (Shw.mono x h) (ShwL.mono x l)
theorem ShwK.mono (x : Ex H H') : ∀ {v : List (Key × V)} {t : List Str} {n : Nat}, ShwK K H v t n → ShwK K H' v t n
  | _, _, _, .nil => .nil
  | _, _, _, .cons kk h l => .cons kk (Shw.mono x h) (ShwK.mono x l)
end
theorem exq_is {a C t1 : Addr} {d : Option Addr} {o : HO} (h : H a = some o) (e : H a = some (exq a C d t1)) : ∃ φ, o = .ext φ := by
  rw [h] at e
  exact ⟨_, Option.some.inj e⟩
mutual
theorem Shw.det : ∀ {v : V} {t : Str} {n : Nat}, Shw K H v t n → ∀ {t' : Str} {n' : Nat}, Shw K H v t' n' → n = n'
  | _, _, _, .non, _, _, h => by cases h; rfl
  | _, _, _, .bl b, _, _, h => by cases h; rfl
  | _, _, _, .int i _, _, _, h => by cases h; rfl
  | _, _, _, .str z, _, _, h => by cases h; rfl
  | _, _, _, .exc e e2 q, _, _, h => by
    cases h with
    | exc f f2 g => rfl
    | lst f l => obtain ⟨_, z⟩ := exq_is f e; cases z
    | tup f l => obtain ⟨_, z⟩ := exq_is f e; cases z
    | dict f l => obtain ⟨_, z⟩ := exq_is f e; cases z
  | _, _, _, .lst e l, _, _, h => by
    cases h with
    | exc f f2 g => obtain ⟨_, z⟩ := exq_is e f; cases z
    | lst f l2 => rw [e] at f; cases f; rw [ShwL.det l l2]
    | tup f l => rw [e] at f; cases f
    | dict f l => rw [e] at f; cases f
  | _, _, _, .tup e l, _, _, h => by
    cases h with
    | exc f f2 g => obtain ⟨_, z⟩ := exq_is e f; cases z
    | lst f l2 => rw [e] at f; cases f
    | tup f l2 => rw [e] at f; cases f; rw [ShwL.det l l2]
    | dict f l => rw [e] at f; cases f
  | _, _, _, .dict e l, _, _, h => by
    cases h with
    | exc f f2 g => obtain ⟨_, z⟩ := exq_is e f; cases z
    | lst f l2 => rw [e] at f; cases f
    | tup f l2 => rw [e] at f; cases f
    | dict f l2 => rw [e] at f; cases f; rw [ShwK.det l l2]
theorem ShwL.det : ∀ {v : List V} {t : List Str} {n : Nat}, ShwL K H v t n → ∀ {t' : List Str} {n' : Nat}, ShwL K H v t' n' → n = n'
  | _, _, _, .nil, _, _, h => by cases h; rfl
  | _, _, _, .cons h l, _, _, h' => by
    cases h' with
    | cons h2 l2 => rw [Shw.det h h2, ShwL.det l l2]
theorem ShwK.det : ∀ {v : List (Key × V)} {t : List Str} {n : Nat}, ShwK K H v t n → ∀ {t' : List Str} {n' : Nat}, ShwK K H v t' n' → n = n'
  | _, _, _, .nil, _, _, h => by cases h; rfl
  | _, _, _, .cons kk h l, _, _, h' => by
    cases h' with
    | cons kk2 h2 l2 => rw [Shw.det h h2, ShwK.det l l2]
end
def AtMost (K : PySem.W.Frag) (H : Hp) (n : Nat) (as : List Addr) : Prop := ∀ b ∈ as, ∃ t m, Shw K H (.ref b) t m ∧ m ≤ n
theorem AtMost.mono' {n m : Nat} {as : List Addr} (h : AtMost K H n as) (l : n ≤ m) : AtMost K H m as := fun b hb => let ⟨t, k, a, c⟩ := h b hb; ⟨t, k, a, Nat.le_trans c l⟩
theorem AtMost.app {n : Nat} {as bs : List Addr} (h : AtMost K H n as) (g : AtMost K H n bs) : AtMost K H n (as ++ bs) := fun b hb => (List.mem_append.mp hb).elim (h b) (g b)
theorem AtMost.cons {n : Nat} {a : Addr} {as : List Addr} {t : Str} (h : AtMost K H n as) (s : Shw K H (.ref a) t (n + 1)) : AtMost K H (n + 1) (a :: as) := fun b hb => by
  rcases List.mem_cons.mp hb with e | hb
  · subst e
    exact ⟨t, _, s, Nat.le_refl _⟩
  · exact (h.mono' (Nat.le_succ n)) b hb
theorem AtMost.not {n : Nat} {a : Addr} {as : List Addr} {t : Str} (h : AtMost K H n as) (s : Shw K H (.ref a) t (n + 1)) : a ∉ as := fun hm => by
  obtain ⟨t', m, s', l⟩ := h a hm
  have := Shw.det s s'
  omega
end
section
variable {X : Cx} {pins : List (Addr × Obj)} {σ : L2.St} {H : Hp} {s : Shared}
theorem xat_of {e d C t1 : Addr} {z : Str} (I : Inv X pins σ H s) (e1 : H e = some (exq e C (some d) t1)) (e2 : H t1 = some (.tup [.str z])) (q : ExQ X.K C) : ∃ tk, XAt X.K C s.heap e z tk := by
  have g1 := exq_at I.hok e1
  obtain ⟨its, rv, ⟨o, ho, hc, n, hd⟩, _⟩ := I.tuple (SqT.of e2)
  cases rv with
  | @cons _ u _ us r1 r2 =>
    cases r2
    obtain ⟨tk, rfl⟩ := r1
    exact ⟨tk, q, I.kIn, t1, some d, g1, o, n, ho, hc, hd⟩
theorem key_k {as : List Addr} {h0 : Heap} {d : Nat} {k : Key} {u : Value} {kt : Str} (hk : keyIs k u = true) (kk : KT k kt) (hz : kt.length ≤ sizeLine) : ReprK X.prog X.w as h0 d u kt := by
  cases kk with
  | int i h =>
    obtain ⟨t, rfl⟩ := Value.isInt_shape (k := i) (v := u) hk
    exact .of_is (ReprIs.int t h) _ _ _
  | str x =>
    obtain ⟨t, rfl⟩ := Value.isStrOf_shape (x := x) (v := u) hk
    exact .of_is (ReprIs.str x t hz) _ _ _
theorem entries_more {prog : Program} {w : World} {h₀ : Heap} {as as' : List Addr} {d d' : Nat} (hsub : ∀ b ∈ as, b ∈ as') (hd : d ≤ d') : ∀ {es : List DictEntry} {ps : List Str}, ReprEntriesK prog w as h₀ d es ps → ReprEntriesK prog w as' h₀ d' es ps
  | _, _, .nil => .nil
  | _, _, .cons h1 h2 l => .cons ((h1.more hsub).level_le hd) ((h2.more hsub).level_le hd) (entries_more hsub hd l)
mutual
theorem Shw.k (I : Inv X pins σ H s) (hs : HasSys X.K) : ∀ {v : V} {t : Str} {n : Nat} {u : Value}, Shw X.K H v t n → RelV v u → t.length ≤ sizeLine → ∃ as, AtMost X.K H n as ∧ ReprK X.prog X.w as s.heap n u t
  | _, _, _, _, .non, r, _ => by
    cases r
    exact ⟨[], (fun _ h => nomatch h), .of_is ReprIs.none _ _ _⟩
  | _, _, _, _, .bl b, r, _ => by
    cases r
    exact ⟨[], (fun _ h => nomatch h), .of_is (ReprIs.bool b) _ _ _⟩
  | _, _, _, _, .int i hi, r, _ => by
    obtain ⟨t, rfl⟩ := r
    exact ⟨[], (fun _ h => nomatch h), .of_is (ReprIs.int t hi) _ _ _⟩
  | _, _, _, _, .str z, r, hz => by
    obtain ⟨t, rfl⟩ := r
    exact ⟨[], (fun _ h => nomatch h), .of_is (ReprIs.str z t hz) _ _ _⟩
  | _, _, _, _, .exc e e2 q, r, hz => by
    cases r
    obtain ⟨tk, x⟩ := xat_of I e e2 q
    exact ⟨[], (fun _ h => nomatch h), fun base hb A g E s' Q hg hcl hu hk0 hQ => xat_under (by omega) (x.keeps hk0) (hQ _ _ fun _ _ e => e) hb⟩
  | _, _, _, _, .lst e l, r, hz => by
    cases r
    have sh := Shw.lst e l
    obtain ⟨its, rv, ⟨o, n, ho, hc, _, hd⟩, _⟩ := I.list (SqL.of e)
    obtain ⟨as, hb, hk⟩ := ShwL.k I hs l rv (fun t ht => Nat.le_trans (listText_mem_le ht) hz)
    refine ⟨_ :: as, hb.cons sh, ?_⟩
    cases its with
    | nil =>
      cases rv
      cases l
      have e0 : listText [] = ("[]" : Str) := listText_nil
      rw [e0]
      exact ReprK.listEmpty ho hc hd
    | cons x l' => exact ReprK.list ho hc hd (hb.not sh) (by simpa using hk.length_eq) (fun i y e => hk.item i y (by simpa using e))
  | _, _, _, _, .tup e l, r, hz => by
    cases r
    have sh := Shw.tup e l
    obtain ⟨its, rv, ⟨o, ho, hc, n, hd⟩, _⟩ := I.tuple (SqT.of e)
    obtain ⟨as, hb, hk⟩ := ShwL.k I hs l rv (fun t ht => Nat.le_trans (tupleText_mem_le ht) hz)
    exact ⟨_ :: as, hb.cons sh, ReprK.tuple ho hc hd (hb.not sh) (by simpa using hk)⟩
  | _, _, _, _, .dict e l, r, hz => by
    cases r
    have sh := Shw.dict e l
    obtain ⟨_, hsys, vs, rv, o, es, ep, ho, hx, hd, _, hp, _⟩ := I.hok _ _ e
    obtain ⟨as, hb, hk⟩ := ShwK.k I hs l rv hp (fun t ht => Nat.le_trans (dictText_mem_le ht) hz)
    exact ⟨_ :: as, hb.cons sh, ReprK.dict ho hx.1 hd hsys (hb.not sh) hk⟩
theorem ShwL.k (I : Inv X pins σ H s) (hs : HasSys X.K) : ∀ {vs : List V} {ts : List Str} {n : Nat} {us : List Value}, ShwL X.K H vs ts n → Vals vs us → (∀ t ∈ ts, t.length ≤ sizeLine) → ∃ as, AtMost X.K H n as ∧ ReprAllK X.prog X.w as s.heap n us ts
  | _, _, _, _, .nil, r, _ => by
    cases r
    exact ⟨[], (fun _ h => nomatch h), .nil⟩
  | _, _, _, _, .cons h l, r, hz => by
    cases r with
    | cons r1 r2 =>
      obtain ⟨as, h1, k1⟩ := Shw.k I hs h r1 (hz _ (List.mem_cons_self ..))
      obtain ⟨bs, h2, k2⟩ := ShwL.k I hs l r2 fun t ht => hz t (List.mem_cons_of_mem _ ht)
      exact ⟨as ++ bs, (h1.mono' (Nat.le_max_left ..)).app (h2.mono' (Nat.le_max_right ..)), .cons ((k1.more fun b hb => List.mem_append_left _ hb).level_le (Nat.le_max_left _ _)) (k2.more_le (fun b hb => List.mem_append_right _ hb) (Nat.le_max_right _ _))⟩
theorem ShwK.k (I : Inv X pins σ H s) (hs : HasSys X.K) : ∀ {kvs : List (Key × V)} {ts : List Str} {n : Nat} {us : List (Key × Value)} {es : List DictEntry}, ShwK X.K H kvs ts n → KV kvs us → Pairs (mixKind X.prog X.w) es us → (∀ t ∈ ts, t.length ≤ sizeLine) →
    ∃ as, AtMost X.K H n as ∧ ReprEntriesK X.prog X.w as s.heap n es ts
  | _, _, _, _, _, .nil, r, p, _ => by
    cases r
    cases p
    exact ⟨[], (fun _ h => nomatch h), .nil⟩
  | _, _, _, _, _, .cons (t := t) (kt := kt) kk h l, r, p, hz => by
    cases r with
    | cons r1 r2 =>
      cases p with
      | cons p1 p2 p3 =>
        obtain ⟨e1, e2⟩ := r1
        have hl := hz _ (List.mem_cons_self ..)
        rw [len_app, len_app] at hl
        obtain ⟨bs, h2, k2⟩ := ShwK.k I hs l r2 p3 fun t ht => hz t (List.mem_cons_of_mem _ ht)
        rw [← e1] at p1
        rw [← p2] at e2
        obtain ⟨as, h1, k1⟩ := Shw.k I hs h e2 (by omega)
        refine ⟨as ++ bs, (h1.mono' (Nat.le_max_left ..)).app (h2.mono' (Nat.le_max_right ..)), .cons (key_k (show keyIs _ _ = true from p1) kk (by omega)) ((k1.more fun b hb => List.mem_append_left _ hb).level_le (Nat.le_max_left _ _)) ?_⟩
        exact entries_more (fun b hb => List.mem_append_right _ hb) (Nat.le_max_right _ _) k2
end
end
end Wk
set_option maxRecDepth 100000
set_option maxHeartbeats 4000000
namespace Wk
open PySem PySem.Spec PyProof.Rows L2
/-- a list's cell, a dict's cell -/
def LD (o : HO) : Prop := (∃ xs, o = .lst xs) ∨ ∃ kvs, o = .dK kvs
/-- a drawn thing, or a list or a dict that changes -/
def Mt (K : PySem.W.Frag) (R : Cells) (D : Hp) (v : V) : Prop := Th K D v ∨ ∃ p o, v = .ref p ∧ ((p, o) : Addr × HO) ∈ R ∧ LD o
section
variable {K : PySem.W.Frag} {R R' : Cells} {D D' H : Hp} {v : V} {c : Addr × HO}
theorem Th.m (h : Th K D v) : Mt K R D v := .inl h
theorem Mt.at {p : Addr} {xs : List V} (h : ((p, HO.lst xs) : Addr × HO) ∈ R) : Mt K R D (.ref p) := .inr ⟨p, _, rfl, h, .inl ⟨xs, rfl⟩⟩
theorem Mt.mono (h : Mt K R D v) (x : Ex D D') : Mt K R D' v := by
  rcases h with h | h
  · exact .inl (h.mono x)
  · exact .inr h
theorem Mt.cell (h : Mt K R D v) : Mt K (c :: R) D v := by
  rcases h with h | ⟨p, o, e, m, l⟩
  · exact .inl h
  · exact .inr ⟨p, o, e, List.mem_cons_of_mem _ m, l⟩
theorem Mt.sub (h : Mt K R D v) (s : ∀ q ∈ R, q ∈ R') : Mt K R' D v := by
  rcases h with h | ⟨p, o, e, m, l⟩
  · exact .inl h
  · exact .inr ⟨p, o, e, s _ m, l⟩
theorem Mt.kn (h : Mt K R D v) (hI : HI H R D) : (∃ k, Kn K H v k) ∧ ∀ z, v = .str z → TxtOk z := by
  rcases h with h | ⟨p, o, rfl, m, l⟩
  · obtain ⟨⟨k, kn⟩, q⟩ := h
    exact ⟨⟨k, hI.kn kn⟩, q⟩
  · rcases l with ⟨xs, rfl⟩ | ⟨kvs, rfl⟩
    · exact ⟨⟨.lst, .lst (hI.get m)⟩, fun z e => by cases e⟩
    · exact ⟨⟨.dict, .dict (hI.get m)⟩, fun z e => by cases e⟩
end
/-- a refusal gets out: of the class at C, the very thing v in it -/
def Outs (E : XK) (C : Addr) (v : V) (R : Cells) (D : Hp) : Prop := ∀ d H' D', HI H' R D' → Ex D D' → D' d = some (.xd [(("found" : Str), v)]) → E (.ref C) (some d) H'
theorem Outs.mono {E : XK} {C : Addr} {v : V} {R : Cells} {D D1 : Hp} (o : Outs E C v R D) (x : Ex D D1) : Outs E C v R D1 := fun d H' D' hi ex hd => o d H' D' hi (x.trans ex) hd
theorem Outs.cell {E : XK} {C : Addr} {v : V} {R : Cells} {D : Hp} {x : Addr × HO} (o : Outs E C v R D) : Outs E C v (x :: R) D := fun d H' D' hi ex hd => o d H' D' hi.drop ex hd
end Wk
set_option maxRecDepth 100000
set_option maxHeartbeats 4000000
namespace Wk
open PySem PySem.Spec PyProof.Rows L2
theorem Ty.mono {K : PySem.W.Frag} {H H' : Hp} {v : V} {t : Value} (h : Ty K H v t) (x : Ex H H') : Ty K H' v t := by
  cases h with
  | b h hn e => exact .b (h.mono x) hn e
  | o h => exact .o (h.mono x)
def TyC (K : PySem.W.Frag) (R : Cells) (D : Hp) (v : V) (t : Value) : Prop := Ty K D v t ∨ (∃ p xs, v = .ref p ∧ ((p, HO.lst xs) : Addr × HO) ∈ R ∧ t = .type "list") ∨ ∃ p kvs, v = .ref p ∧ ((p, HO.dK kvs) : Addr × HO) ∈ R ∧ t = .type "dict"
section
variable {K : PySem.W.Frag} {R R' : Cells} {D D' H : Hp} {v : V} {t : Value} {c : Addr × HO}
theorem TyC.mono (h : TyC K R D v t) (x : Ex D D') : TyC K R D' v t := by
  rcases h with h | h
  · exact .inl (h.mono x)
  · exact .inr h
theorem TyC.sub (h : TyC K R D v t) (s : ∀ q ∈ R, q ∈ R') : TyC K R' D v t := by
  rcases h with h | ⟨p, o, e, m, l⟩ | ⟨p, o, e, m, l⟩
  · exact .inl h
  · exact .inr (.inl ⟨p, o, e, s _ m, l⟩)
  · exact .inr (.inr ⟨p, o, e, s _ m, l⟩)
theorem TyC.cell (h : TyC K R D v t) : TyC K (c :: R) D v t := h.sub fun q hq => List.mem_cons_of_mem _ hq
theorem TyC.ty (h : TyC K R D v t) (hI : HI H R D) : Ty K H v t := by
  rcases h with h | ⟨p, xs, rfl, m, rfl⟩ | ⟨p, kvs, rfl, m, rfl⟩
  · exact h.mono hI.sub
  · exact .b (.lst (hI.get m)) (by decide +kernel) rfl
  · exact .b (.dict (hI.get m)) (by decide +kernel) rfl
end
end Wk
set_option maxRecDepth 100000
set_option maxHeartbeats 4000000
namespace Wk
open PySem PySem.Spec PyProof.Rows L2
abbrev LCs := List (Addr × List V)
def lcs (LC : LCs) : Cells := LC.map fun c => (c.1, HO.lst c.2)
/-- a list's items, at most m -/
def Lg (D : Hp) (m : Nat) (xs : List V) : Prop := ∃ ds, RepL D xs ds ∧ (∀ d ∈ ds, Sm d 100 3) ∧ ds.length ≤ m
theorem Lg.mono {D D' : Hp} {m m' : Nat} {xs : List V} (h : Lg D m xs) (x : Ex D D') (l : m ≤ m') : Lg D' m' xs := by
  obtain ⟨ds, a, b, c⟩ := h
  exact ⟨ds, a.mono x, b, Nat.le_trans c l⟩
theorem Lg.snoc {D : Hp} {m : Nat} {xs : List V} {v : V} {d : PyData} (h : Lg D m xs) (r : Rep D v d) (s : Sm d 100 3) : Lg D (m + 1) (xs ++ [v]) := by
  obtain ⟨ds, a, b, c⟩ := h
  refine ⟨ds ++ [d], a.snoc r, fun e he => ?_, by rw [List.length_append]; exact Nat.succ_le_succ c⟩
  rcases List.mem_append.mp he with q | q
  · exact b e q
  · rw [List.mem_singleton.mp q]
    exact s
theorem Lg.len {D : Hp} {m : Nat} {xs : List V} (h : Lg D m xs) : xs.length ≤ m := by
  obtain ⟨ds, a, b, c⟩ := h
  rw [a.length]
  exact c
/-- a thing: data, or one of the lists -/
def Vg (K : PySem.W.Frag) (LC : LCs) (D : Hp) (v : V) : Prop := (∃ k d, Kn K D v k ∧ k.is "list" = false ∧ Rep D v d ∧ Sm d 100 3 ∧ ∀ z, v = .str z → TxtOk z) ∨ ∃ c ∈ LC, v = .ref c.1
section
variable {K : PySem.W.Frag} {LC : LCs} {D D' H : Hp} {R : Cells} {v : V}
theorem Vg.mono (h : Vg K LC D v) (x : Ex D D') : Vg K LC D' v := by
  rcases h with ⟨k, d, a, b, c, e, f⟩ | h
  · exact .inl ⟨k, d, a.mono x, b, c.mono x, e, f⟩
  · exact .inr h
theorem Vg.more {LN : LCs} (h : Vg K LC D v) : Vg K (LN ++ LC) D v := by
  rcases h with h | ⟨c, m, e⟩
  · exact .inl h
  · exact .inr ⟨c, List.mem_append_right _ m, e⟩
theorem Vg.m (h : Vg K LC D v) (s : ∀ q ∈ lcs LC, q ∈ R) : Mt K R D v := by
  rcases h with ⟨k, d, a, b, c, e, f⟩ | ⟨c, m, rfl⟩
  · exact .inl ⟨⟨k, a⟩, f⟩
  · exact .inr ⟨c.1, .lst c.2, rfl, s _ (List.mem_map.mpr ⟨c, m, rfl⟩), .inl ⟨_, rfl⟩⟩
theorem Vg.non : Vg K LC D .non := .inl ⟨.non, _, .non, rfl, .non, Sm.non.mono (by decide) (by decide), fun z e => by cases e⟩
theorem Vg.bl (b : Bool) : Vg K LC D (.bl b) := .inl ⟨.bl, _, .bl b, rfl, .bl b, (Sm.bl b).mono (by decide) (by decide), fun z e => by cases e⟩
theorem Vg.int {i : Int} (h : i.natAbs < 10 ^ 30) : Vg K LC D (.int i) := .inl ⟨.int, _, .int i, rfl, .int i, (Sm.int h).mono (by decide) (by decide), fun z e => by cases e⟩
theorem Vg.str {z : Str} (h : Sg z) (l : z.length ≤ 9) : Vg K LC D (.str z) := .inl ⟨.str, _, .str z, rfl, .str z, (Sm.str h).mono (by omega) (by decide), fun y e => by cases e; exact ⟨by omega, h⟩⟩
theorem Vg.tup {p : Addr} {xs : List V} {d : PyData} (e : D p = some (.tup xs)) (r : Rep D (.ref p) d) (s : Sm d 100 3) : Vg K LC D (.ref p) := .inl ⟨.tup, d, .tup e, rfl, r, s, fun z e => by cases e⟩
theorem Vg.dict {p : Addr} {xs : List (Key × V)} {d : PyData} (e : D p = some (.dK xs)) (r : Rep D (.ref p) d) (s : Sm d 100 3) : Vg K LC D (.ref p) := .inl ⟨.dict, d, .dict e, rfl, r, s, fun z e => by cases e⟩
/-- the thing as repr sees it -/
theorem Vg.rep (h : Vg K LC D v) {m : Nat} (hm : m ≤ 100) (hI : HI H R D) (s : ∀ q ∈ lcs LC, q ∈ R) (g : ∀ c ∈ LC, Lg D m c.2) : ∃ d, Rep H v d ∧ Sm d 11000 4 := by
  rcases h with ⟨k, d, a, b, c, e, f⟩ | ⟨c, mc, rfl⟩
  · exact ⟨d, hI.rep c, e.mono (by decide) (by decide)⟩
  · obtain ⟨ds, r, sm, l⟩ := g c mc
    refine ⟨.list ds, .lst (hI.get (s _ (List.mem_map.mpr ⟨c, mc, rfl⟩))) (r.mono hI.sub), (Sm.list sm).mono ?_ (Nat.le_refl _)⟩
    omega
end
def putC (p : Addr) (o : HO) (R : Cells) : Cells := R.map fun q => if q.1 = p then (p, o) else q
def putL (p : Addr) (xs : List V) (LC : LCs) : LCs := LC.map fun c => if c.1 = p then (p, xs) else c
theorem HI.put {H D : Hp} {R : Cells} {p : Addr} {o u : HO} (h : HI H R D) (m : (p, o) ∈ R) : HI (upd H p u) (putC p u R) D := by
  have keys : (putC p u R).map (·.1) = R.map (·.1) := by
    unfold putC
    rw [List.map_map]
    refine List.map_congr_left fun q _ => ?_
    show (if q.1 = p then (p, u) else q).1 = q.1
    by_cases e : q.1 = p
    · rw [if_pos e, e]
    · rw [if_neg e]
  have dp := (h.cell _ m).2
  refine ⟨by rw [keys]; exact h.nd, fun q hq => ?_, fun b w e => ?_⟩
  · obtain ⟨q0, m0, rfl⟩ := List.mem_map.mp hq
    by_cases e : q0.1 = p
    · rw [if_pos e]
      exact ⟨upd_same, dp⟩
    · rw [if_neg e, upd_ne e]
      exact h.cell q0 m0
  · have ne : b ≠ p := fun e2 => by
      rw [e2, dp] at e
      cases e
    rw [upd_ne ne]
    exact h.sub b w e
theorem Vg.put {K : PySem.W.Frag} {D : Hp} {LC : LCs} {p : Addr} {xs : List V} {v : V} (h : Vg K LC D v) : Vg K (putL p xs LC) D v := by
  rcases h with h | ⟨c, m, rfl⟩
  · exact .inl h
  · refine .inr ⟨if c.1 = p then (p, xs) else c, List.mem_map.mpr ⟨c, m, rfl⟩, ?_⟩
    by_cases e : c.1 = p
    · rw [if_pos e, e]
    · rw [if_neg e]
end Wk
set_option maxRecDepth 100000
set_option maxHeartbeats 4000000
namespace Wk
open PySem PySem.Spec PyProof.Rows L2
theorem hu1 {k : Nat} {A : Around} (r : Room k A) : A.units + 1 < cLine := by have := r.units; omega
def DgP (x : V) (H : Hp) (N : Addr → Prop) : Prop := ∃ a, x = .ref a ∧ IsD H a ∧ N a
def DqP (a : Addr) (y : V) (H : Hp) (N : Option V → Prop) : Prop := ∃ o, DGet H a y o ∧ N o
def DvP (x y : V) (H : Hp) (N : V → Prop) : Prop := ∃ a v, x = .ref a ∧ DGet H a y (some v) ∧ N v
def DiP (x y : V) (H : Hp) (N : Option V → Prop) : Prop := ∃ a o, x = .ref a ∧ DGet H a y o ∧ N o
def DpP (x y v : V) (H : Hp) (N : Hp → Prop) : Prop := ∃ a H', x = .ref a ∧ DPut H a y v H' ∧ N H'
def DoP (a : Addr) (y : V) (H : Hp) (Q : VK) : Prop := ∃ kvs k v, H a = some (.dK kvs) ∧ y = kV k ∧ valV kvs k = some v ∧ Q v (upd H a (.dK (dropK kvs k)))
section
variable {K : PySem.W.Frag} {σ : L2.St} {H D : Hp} {R : Cells} {Q : VK} {td ty tx tv : TE} {Ds : Ends} {a : Addr} {kvs : List (Key × V)} {i : Int} {z : Str} {v : V}
theorem se_dget2 (h : td σ H fun x H1 => DgP x H1 fun a => ty σ H1 fun y H2 => tx σ H2 fun z H3 => DqP a y H3 fun o => Q (o.getD z) H3) : tDGet2 td ty tx σ H Q := h
theorem se_dget1 (h : td σ H fun x H1 => DgP x H1 fun a => ty σ H1 fun y H2 => DqP a y H2 fun o => Q (o.getD .non) H2) : tDGet1 td ty σ H Q := h
theorem dg_mk {N : Addr → Prop} (e : H a = some (.dK kvs)) (h : N a) : DgP (.ref a) H N := ⟨a, rfl, .inl ⟨kvs, .inl e⟩, h⟩
theorem dq_i {N : Option V → Prop} (e : H a = some (.dK kvs)) (h : N (valV kvs (.inl i))) : DqP a (.int i) H N := ⟨_, DGet.k (k := Sum.inl i) e, h⟩
theorem dq_s {N : Option V → Prop} (e : H a = some (.dK kvs)) (h : N (valV kvs (.inr z))) : DqP a (.str z) H N := ⟨_, DGet.k (k := Sum.inr z) e, h⟩
theorem se_dsub (h : td σ H fun x H1 => ty σ H1 fun y H2 => DvP x y H2 fun v => Q v H2) : tDGet td ty σ H Q := h
theorem dv_s {N : V → Prop} (e : H a = some (.dK kvs)) (l : valV kvs (.inr z) = some v) (h : N v) : DvP (.ref a) (.str z) H N := ⟨a, v, rfl, by rw [← l]; exact DGet.k (k := Sum.inr z) e, h⟩
theorem se_din (h : ty σ H fun y H1 => td σ H1 fun x H2 => DiP x y H2 fun o => Q (.bl o.isSome) H2) : tDIn ty td σ H Q := h
theorem se_dni (h : ty σ H fun y H1 => td σ H1 fun x H2 => DiP x y H2 fun o => Q (.bl (!o.isSome)) H2) : tDNotIn ty td σ H Q := h
theorem di_i {N : Option V → Prop} (e : H a = some (.dK kvs)) (h : N (valV kvs (.inl i))) : DiP (.ref a) (.int i) H N := ⟨a, _, rfl, DGet.k (k := Sum.inl i) e, h⟩
theorem di_s {N : Option V → Prop} (e : H a = some (.dK kvs)) (h : N (valV kvs (.inr z))) : DiP (.ref a) (.str z) H N := ⟨a, _, rfl, DGet.k (k := Sum.inr z) e, h⟩
theorem st_dput (h : tv σ H fun v H1 => td σ H1 fun x H2 => ty σ H2 fun y H3 => DpP x y v H3 fun H4 => Ds.nx σ H4) : sDPut td ty tv Ds σ H := h
theorem dp_i {N : Hp → Prop} (hi : HI H ((a, .dK kvs) :: R) D) (hl : kvs.length < 1000000) (k : ∀ H', HI H' ((a, .dK (putK kvs (.inl i) v)) :: R) D → N H') : DpP (.ref a) (.int i) v H N :=
  ⟨a, _, rfl, DPut.k (k := Sum.inl i) (hi.get (List.mem_cons_self ..)) (by rw [sizeLine_eq]; omega), k _ hi.set⟩
theorem dp_s {N : Hp → Prop} (hi : HI H ((a, .dK kvs) :: R) D) (hl : kvs.length < 1000000) (k : ∀ H', HI H' ((a, .dK (putK kvs (.inr z) v)) :: R) D → N H') : DpP (.ref a) (.str z) v H N :=
  ⟨a, _, rfl, DPut.k (k := Sum.inr z) (hi.get (List.mem_cons_self ..)) (by rw [sizeLine_eq]; omega), k _ hi.set⟩
theorem se_dpop1 (h : td σ H fun x H1 => DgP x H1 fun a => ty σ H1 fun y H2 => DoP a y H2 Q) : tDPop1 td ty σ H Q := h
end
def tDNewM : TE := tDNewK
theorem pe_dnewM {X : Cx} {pos : Pos} : PE X (.Dict [] [] pos) tDNewM := pe_dnewK
theorem se_dnewM {σ : L2.St} {H : Hp} {Q : VK} (h : AlM (.dK []) H Q) : tDNewM σ H Q := h
inductive RLenO (C : Addr) (sp : Sp) : List V → Hp → VK → Prop
  | b {xs : List V} {H : Hp} {Q : VK} : RLen xs H Q → RLenO C sp xs H Q
  | o {a dx : Addr} {fs : List (Str × V)} {H : Hp} {Q : VK} : H a = some (.ins C dx fs) → sp [.ref a] H (fun v H' => ∃ n : Int, v = .int n ∧ 0 ≤ n ∧ n < 2 ^ 62 ∧ Q (.int n) H') (fun _ _ _ => False) → RLenO C sp [.ref a] H Q
theorem call_lenO {X : Cx} {k : Nat} {f C : Addr} {sp : Sp} {ps : List Str} (hc : PySem.W.findIn X.K (.ref C) "__len__" = some (some (.ref f))) (hf : PySem.W.isFn X.K (.ref f) = true) (F : FnG X.prog X.w X.K X.mg X.base k f ps sp) (hb : Binds X.K (fdOf X.K f) ps []) (hgu : X.A.guards = some []) (hr : Room (k + 1) X.A) :
    CallR X (.builtin "len") (RLenO C sp) := by
  intro pins s σ H xs us Q I r h
  cases h with
  | b q => exact call_lenU pins s σ H _ us Q I r q
  | @o a dx fs _ _ e q =>
    obtain ⟨u, rfl, ru⟩ := vals1 r
    cases ru
    obtain ⟨ox, od, J⟩ := ins_at I e
    obtain ⟨m, hF⟩ := I.fr
    refine PySem.W.len_K hF I.ok.mod.kin J hc hf ?_
    refine wpAny_mono (run_at F (by exact hgu) rfl hr.in1 hb I (.cons (show L2.RelV (.ref a) (.ref a) from rfl) .nil) q) (fun u' s' hu => ?_) fun _ _ z => z
    obtain ⟨w, H', I', rw', n, rfl, n0, n1, q'⟩ := hu
    obtain ⟨t, rfl⟩ := rw'
    exact ⟨⟨n0, Int.lt_trans n1 (by decide)⟩, ⟨.int n, H', I'.tok _, ⟨_, rfl⟩, q'⟩⟩
def iSeq (K : PySem.W.Frag) (tl : TE) : TI := fun σ H R => tl σ H fun x H1 => (∃ a, x = .ref a ∧ (∃ xs, SqL K H1 a xs) ∧ R (Itl K a) H1) ∨ ∃ a, x = .ref a ∧ (∃ xs, SqT K H1 a xs) ∧ R (Itt K a) H1
theorem pi_seq {X : Cx} {tg l : Expr} {tl : TE} (hl : PE X l tl) : PI X tg l (iSeq X.K tl) := by
  refine ⟨fun pins s σ H R I h => ?_⟩
  refine thn (hl.run pins s σ H _ I h) fun v s1 ⟨x, H1, I1, r1, q1⟩ => ?_
  rcases q1 with ⟨a, e, ⟨xs, hq⟩, q⟩ | ⟨a, e, ⟨xs, hq⟩, q⟩
  · subst e
    cases r1
    obtain ⟨its, rv, p, hz⟩ := I1.list hq
    refine wpAny_pyIter_list p.isList ?_
    refine ⟨s1.heap.objs.size, [s1.heap.objs.size], _, _, H1, rfl, I1.kept (t' := s1.toks) fun b o e => Heap.get?_push_of_some _ e, turn_list a _, ⟨_, Heap.get?_push_size _ rfl, rfl, rfl⟩, fun b hb => ?_, q⟩
    have e : b = s1.heap.objs.size := by simpa using hb
    subst e
    exact I1.fpOk (Nat.le_refl _) (I1.hok.fresh (Nat.le_refl _))
  · subst e
    cases r1
    obtain ⟨its, rv, p, hz⟩ := I1.tuple hq
    refine wpAny_pyIter_tuple (show s1.heap.IsTuple a its.toArray from p) ?_
    refine ⟨s1.heap.objs.size, [s1.heap.objs.size], _, _, H1, rfl, I1.kept (t' := s1.toks) fun b o e => Heap.get?_push_of_some _ e, turn_tuple a _, ⟨_, Heap.get?_push_size _ rfl, rfl, rfl⟩, fun b hb => ?_, q⟩
    have e : b = s1.heap.objs.size := by simpa using hb
    subst e
    exact I1.fpOk (Nat.le_refl _) (I1.hok.fresh (Nat.le_refl _))
section
variable {K : PySem.W.Frag} {σ : L2.St} {H : Hp} {te : TE} {R : It → Hp → Prop} {a : Addr} {xs : List V}
theorem it_seq (h : te σ H fun x H1 => (∃ a, x = .ref a ∧ (∃ xs, SqL K H1 a xs) ∧ R (Itl K a) H1) ∨ ∃ a, x = .ref a ∧ (∃ xs, SqT K H1 a xs) ∧ R (Itt K a) H1) : iSeq K te σ H R := h
theorem seq_l {P P' : Addr → Prop} (h : H a = some (.lst xs)) (q : P a) : (∃ b, V.ref a = .ref b ∧ (∃ xs, SqL K H b xs) ∧ P b) ∨ ∃ b, V.ref a = .ref b ∧ (∃ xs, SqT K H b xs) ∧ P' b := .inl ⟨a, rfl, ⟨xs, SqL.of h⟩, q⟩
theorem seq_t {P P' : Addr → Prop} (h : H a = some (.tup xs)) (q : P' a) : (∃ b, V.ref a = .ref b ∧ (∃ xs, SqL K H b xs) ∧ P b) ∨ ∃ b, V.ref a = .ref b ∧ (∃ xs, SqT K H b xs) ∧ P' b := .inr ⟨a, rfl, ⟨xs, SqT.of h⟩, q⟩
end
inductive Sq3 (R : Cells) (D : Hp) (p : Addr) (xs : List V) : Prop
  | l (e : D p = some (.lst xs))
  | t (e : D p = some (.tup xs))
  | c (m : ((p, HO.lst xs) : Addr × HO) ∈ R)
theorem Sq3.mono {R : Cells} {D D' : Hp} {p : Addr} {xs : List V} (s : Sq3 R D p xs) (x : Ex D D') : Sq3 R D' p xs := by
  cases s with
  | l e => exact .l (x _ _ e)
  | t e => exact .t (x _ _ e)
  | c m => exact .c m
theorem Sq3.sub {R R' : Cells} {D : Hp} {p : Addr} {xs : List V} (s : Sq3 R D p xs) (h : ∀ q ∈ R, q ∈ R') : Sq3 R' D p xs := by
  cases s with
  | l e => exact .l e
  | t e => exact .t e
  | c m => exact .c (h _ m)
theorem Sq3.len {H D : Hp} {R : Cells} {p : Addr} {xs : List V} {Q : VK} (hi : HI H R D) (s : Sq3 R D p xs) (q : Q (.int xs.length) H) : RLen [.ref p] H Q := by
  cases s with
  | l e => exact .lst (hi.dat e) q
  | t e => exact .tup (hi.dat e) q
  | c m => exact .lst (hi.get m) q
theorem Sq3.list {H D : Hp} {R : Cells} {p : Addr} {xs : List V} {Q : VK} (hi : HI H R D) (s : Sq3 R D p xs) (q : AlD (.lst xs) H Q) : RListO [.ref p] H Q := by
  cases s with
  | l e => exact .l (hi.dat e) q
  | t e => exact .t (hi.dat e) q
  | c m => exact .l (hi.get m) q
theorem Sq3.isi {K : PySem.W.Frag} {H D : Hp} {R : Cells} {p T : Addr} {xs : List V} {Q : VK} (hi : HI H R D) (s : Sq3 R D p xs) (e : H T = some (.tup [.ty "list", .ty "tuple"])) (q : Q (.bl true) H) : RIsiT K [.ref p, .ref T] H Q := by
  have hs : ∀ n ∈ (["list", "tuple"] : List String), n ∈ six := by decide +kernel
  cases s with
  | l e1 => exact .ty (k := .lst) (ns := ["list", "tuple"]) (.lst (hi.dat e1)) e hs q
  | t e1 => exact .ty (k := .tup) (ns := ["list", "tuple"]) (.tup (hi.dat e1)) e hs q
  | c m => exact .ty (k := .lst) (ns := ["list", "tuple"]) (.lst (hi.get m)) e hs q
section
variable {K : PySem.W.Frag} {g : TG} {tb : TS} {D : Ends} {σ : L2.St} {H D0 : Hp} {R0 : Cells} {tt : TT} {te : TE} {vs : List Nat} {Q : VK} {a : Addr} {xs : List V}
theorem lc_seq (s : Sq3 R0 D0 a xs) (I : Nat → List V → Cells → Hp → Prop) (hi : HI H R0 D0) (h0 : I 0 [] R0 D0) (hl : ∀ i acc R Dd, I i acc R Dd → (∀ q ∈ R0, q ∈ R) ∧ Ex D0 Dd)
    (hs : ∀ L i acc x R Dd H, xs[i]? = some x → HI H ((L, .lst acc) :: R) Dd → I i acc R Dd → acc.length ≤ i → g x (wipe σ vs) H fun σ2 H2 => wipe σ2 vs = wipe σ vs ∧ tt σ2 H2 fun b H3 => if b = true then te σ2 H3 (LE L I (i + 1)) else PW' L I (i + 1) H3)
    (hd : ∀ L acc R Dd H, HI H ((L, .lst acc) :: R) Dd → I xs.length acc R Dd → acc.length ≤ xs.length → Q (.ref L) H) :
    (∃ b, V.ref a = .ref b ∧ (∃ xs, SqL K H b xs) ∧ LcK (Itl K b) g tt te vs σ H Q) ∨ ∃ b, V.ref a = .ref b ∧ (∃ xs, SqT K H b xs) ∧ LcK (Itt K b) g tt te vs σ H Q := by
  cases s with
  | l e => exact .inl ⟨a, rfl, ⟨xs, SqL.of (hi.dat e)⟩, lc_lst I hi h0 (fun i acc R Dd p => (hl i acc R Dd p).2 _ _ e) hs hd⟩
  | t e => exact .inr ⟨a, rfl, ⟨xs, SqT.of (hi.dat e)⟩, lc_tup I hi h0 (fun i acc R Dd p => (hl i acc R Dd p).2 _ _ e) hs hd⟩
  | c m => exact .inl ⟨a, rfl, ⟨xs, SqL.of (hi.get m)⟩, lc_hi walk_list I hi h0 (fun i acc R Dd H _ q p => SqL.of (q.get ((hl i acc R Dd p).1 _ m))) (fun L i acc x R Dd H H' hn a b c y => by
      obtain ⟨rfl, y⟩ := y
      exact hs L i acc x R Dd H' y a b c) hd⟩
theorem for_seq (s : Sq3 R0 D0 a xs) (I : Nat → L2.St → Cells → Hp → Prop) (hi : HI H R0 D0) (h0 : I 0 σ R0 D0) (hl : ∀ i σ R Dd, I i σ R Dd → (∀ q ∈ R0, q ∈ R) ∧ Ex D0 Dd)
    (hs : ∀ (i : Nat) x σ R Dd H, xs[i]? = some x → HI H R Dd → I i σ R Dd → g x σ H fun σ2 H2 => tb { D with nx := NX I (i + 1), ct := NX I (i + 1), bk := D.nx } σ2 H2) (hd : ∀ σ R Dd H, HI H R Dd → I xs.length σ R Dd → D.nx σ H) :
    (∃ b, V.ref a = .ref b ∧ (∃ xs, SqL K H b xs) ∧ ForK (Itl K b) g tb D σ H) ∨ ∃ b, V.ref a = .ref b ∧ (∃ xs, SqT K H b xs) ∧ ForK (Itt K b) g tb D σ H := by
  cases s with
  | l e => exact .inl ⟨a, rfl, ⟨xs, SqL.of (hi.dat e)⟩, for_lst I hi h0 (fun i σ R Dd p => (hl i σ R Dd p).2 _ _ e) hs hd⟩
  | t e => exact .inr ⟨a, rfl, ⟨xs, SqT.of (hi.dat e)⟩, for_tup I hi h0 (fun i σ R Dd p => (hl i σ R Dd p).2 _ _ e) hs hd⟩
  | c m => exact .inl ⟨a, rfl, ⟨xs, SqL.of (hi.get m)⟩, for_hi walk_list I hi h0 (fun i σ R Dd H _ q p => SqL.of (q.get ((hl i σ R Dd p).1 _ m))) (fun i x σ R Dd H H' hn a b y => by
      obtain ⟨rfl, y⟩ := y
      exact hs i x σ R Dd H' y a b) hd⟩
end
inductive RDictM (K : PySem.W.Frag) : List V → Hp → VK → Prop
  | d {a : Addr} {kvs : List (Key × V)} {H : Hp} {Q : VK} : H a = some (.dK kvs) → AlM (.dK kvs) H Q → RDictM K [.ref a] H Q
theorem paired_mono {α β : Type} {r s : α → β → Prop} (h : ∀ a b, r a b → s a b) : ∀ {xs : List α} {ys : List β}, Paired r xs ys → Paired s xs ys
  | _, _, .nil => .nil
  | _, _, .cons a l => .cons (h _ _ a) (paired_mono h l)
theorem call_dictOM {X : Cx} (hc : X.calm = true) : CallR X (.type "dict") (RDictM X.K) := by
  intro pins s σ H xs us Q I r h
  cases h with
  | d e q => exact call_dictD pins s σ H _ us Q I r ⟨_, _, rfl, .inl e, q⟩
theorem ip_mk {g : Int → Int → Int} {i j : Int} {H : Hp} {N : V → Hp → Prop} (h : N (.int (g i j)) H) : ipI g (.int i) (.int j) H N := ⟨i, j, rfl, rfl, h⟩
/-- t[lo:hi] of a tuple, not the whole of it -/
inductive RSlTu : V → Option Int → Option Int → Hp → VK → Prop
  | tup {p : Addr} {xs : List V} {lo hi : Option Int} {H : Hp} {Q : VK} : H p = some (.tup xs) → ¬ (HT.sIx xs.length 0 lo = 0 ∧ HT.sIx xs.length xs.length hi = xs.length) → AlD (.tup (cutV xs lo hi)) H Q → RSlTu (.ref p) lo hi H Q
theorem sl_Tu {X : Cx} : SlR X (RSlTu) := by
  intro pins s σ H x v lo hi vl vu sl Q I rx hs h1 h2 h
  cases h with
  | tup hl hw q => exact sl_tup pins s σ H _ v _ _ vl vu sl Q I rx hs h1 h2 ⟨_, _, rfl, SqT.of hl, hw, q⟩
end Wk
set_option maxRecDepth 100000
set_option maxHeartbeats 4000000
namespace Wk
open PySem PySem.Spec PyProof.Rows L2
/-- the list at a as it stands at each turn, each item in a new pair, counted from k -/
def IteF (K : PySem.W.Frag) (a : Addr) (k : Int) : It :=
  ⟨fun i H => ∃ (xs : List V) (x : V), SqL K H a xs ∧ xs[i]? = some x, fun i H v H' => ∃ T x, v = .ref T ∧ H T = none ∧ H' = upd H T (.tup [.int (k + (i : Nat)), x]) ∧ ∀ xs, SqL K H a xs → xs[i]? = some x, fun i H => ∃ xs : List V, SqL K H a xs ∧ xs.length = i⟩
def iEnumF (K : PySem.W.Frag) (ta tk : TA) : TI := fun σ H R => ta σ H fun vs H1 => tk σ H1 fun zs H2 => ∃ a xs k, vs = [.ref a] ∧ zs = [.int k] ∧ (-1000 ≤ k ∧ k ≤ 1000) ∧ SqL K H2 a xs ∧ R (IteF K a k) H2
section
variable {K : PySem.W.Frag} {σ : L2.St} {H D0 : Hp} {ta tk tl : TA} {te : TE} {R : It → Hp → Prop} {R0 : Cells} {a b : Addr} {xs ys : List V} {g : TG} {tb : TS} {D : Ends} {n : Nat}
theorem it_enumF (h : ta σ H fun vs H1 => tk σ H1 fun zs H2 => ∃ a xs k, vs = [.ref a] ∧ zs = [.int k] ∧ (-1000 ≤ k ∧ k ≤ 1000) ∧ SqL K H2 a xs ∧ R (IteF K a k) H2) : iEnumF K ta tk σ H R := h
theorem enumF_mk {k : Int} {P : Addr → Int → Prop} (h1 : H a = some (.lst xs)) (hk : -1000 ≤ k ∧ k ≤ 1000) (q : P a k) : ∃ a' xs k', [V.ref a] = [.ref a'] ∧ [V.int k] = [.int k'] ∧ (-1000 ≤ k' ∧ k' ≤ 1000) ∧ SqL K H a' xs ∧ P a' k' := ⟨a, xs, k, rfl, rfl, hk, SqL.of h1, q⟩
theorem it_rng3 (h : ta σ H fun vs H1 => ∃ (i j c : Int) (n : Nat), vs = [.int i, .int j, .int c] ∧ RgC i j c n ∧ R (Itc i c n) H1) : iRng3 ta σ H R := h
theorem rng3_dn {i j : Int} {P : Int → Int → Nat → Prop} (h : (-(2 ^ 62) ≤ i ∧ i < 2 ^ 62) ∧ -(2 ^ 62) ≤ j ∧ j < 2 ^ 62) (q : P i (-1) (i - j).toNat) : ∃ (i' j' c : Int) (n : Nat), [V.int i, V.int j, V.int (-1)] = [.int i', .int j', .int c] ∧ RgC i' j' c n ∧ P i' c n :=
  ⟨i, j, -1, _, rfl, RgC.neg h.1.1 h.1.2 h.2.1 h.2.2, q⟩
end
theorem pi_listC {X : Cx} {K : PySem.W.Frag} {tg e : Expr} {tl : TE} (he : PE X e tl) (hK : X.K = K) : PI X tg e (iList K tl) := by
  subst hK
  exact pi_list he
end Wk
set_option maxRecDepth 100000
set_option maxHeartbeats 4000000
namespace Wk
open PySem PySem.Spec PyProof.Rows L2
/-- the data without what stands at d -/
def outD (D : Hp) (d : Addr) : Hp := fun b => if b = d then none else D b
section
variable {K : PySem.W.Frag} {σ : L2.St} {H D D0 : Hp} {R R0 : Cells} {d : Addr} {o : HO}
theorem HI.thaw (h : HI H R D) (e : D d = some o) : HI H ((d, o) :: R) (outD D d) := by
  refine ⟨?_, fun q hq => ?_, fun b w e2 => ?_⟩
  · rw [List.map_cons, List.nodup_cons]
    refine ⟨fun hm => ?_, h.nd⟩
    obtain ⟨q, hq, e1⟩ := List.mem_map.mp hm
    have := (h.cell q hq).2
    rw [e1, e] at this
    cases this
  · rcases List.mem_cons.mp hq with rfl | m
    · exact ⟨h.sub _ _ e, if_pos rfl⟩
    · refine ⟨(h.cell q m).1, ?_⟩
      show (if q.1 = d then none else D q.1) = none
      split
      · rfl
      · exact (h.cell q m).2
  · have : b ≠ d := fun z => by
      have e3 : (if b = d then none else D b) = some w := e2
      rw [if_pos z] at e3
      cases e3
    have e3 : (if b = d then none else D b) = some w := e2
    rw [if_neg this] at e3
    exact h.sub _ _ e3
theorem outD_back {D2 : Hp} (h : Ex (outD D d) D2) (e : D d = some o) : Ex D (upd D2 d o) := fun b w e2 => by
  by_cases z : b = d
  · subst z
    rw [e] at e2
    cases e2
    exact upd_same
  · rw [upd_ne z]
    exact h _ _ (show (if b = d then none else D b) = some w by rw [if_neg z]; exact e2)
/-- a dict of the data is locked while an expression runs -/
theorem se_lock {t : TE} {Q : VK} {u : HO} (hI : HI H R D) (e : D d = some u) (mu : Mut (some u))
    (q : ∀ od H1, HI H1 ((d, .frz od u) :: R) (outD D d) → t σ H1 fun v H' => H' d = some (.frz od u) ∧ Q v (upd H' d u)) : tLockE t σ H Q :=
  ⟨d, u, hI.sub _ _ e, mu, fun od => q od _ (hI.thaw e).set⟩
theorem lock_end {u : HO} {od : Obj} {D2 H' : Hp} {P : Hp → Prop} (h : HI H' ((d, .frz od u) :: R) D2) (x : Ex (outD D d) D2) (e : D d = some u) (k : ∀ H2 D3, HI H2 R D3 → Ex D D3 → Ex D2 D3 → P H2) : H' d = some (.frz od u) ∧ P (upd H' d u) :=
  ⟨h.get (List.mem_cons_self ..), k _ _ (h.set (u := u)).freeze (outD_back x e) fun b w e2 => by
    have : b ≠ d := fun z => by
      have := (h.cell _ (List.mem_cons_self ..)).2
      rw [z] at e2
      rw [this] at e2
      cases e2
    rw [upd_ne this]
    exact e2⟩
end
section
variable {J : It} {n : Nat} {g : TG} {tb : TS} {σ : L2.St} {H D0 : Hp} {R0 : Cells} {tt : TT} {te : TE} {vs : List Nat} {Q : VK} {d : Addr} {o : Obj} {kvs : List (Key × V)} {td : TE} {R : It → Hp → Prop}
theorem it_items (h : td σ H fun x H1 => ∃ d o kvs, x = .ref d ∧ H1 d = some (.frz o (.dK kvs)) ∧ R (Iti d o kvs) H1) : iItems td σ H R := h
theorem items_mk {P : Addr → Obj → List (Key × V) → Prop} (h : H d = some (.frz o (.dK kvs))) (q : P d o kvs) : ∃ d' o' kvs', V.ref d = .ref d' ∧ H d' = some (.frz o' (.dK kvs')) ∧ P d' o' kvs' := ⟨d, o, kvs, rfl, h, q⟩
theorem lc_items (I : Nat → List V → Cells → Hp → Prop) (hi : HI H R0 D0) (h0 : I 0 [] R0 D0) (hl : ∀ i acc R Dd, I i acc R Dd → ((d, HO.frz o (.dK kvs)) : Addr × HO) ∈ R)
    (hs : ∀ L i acc k v T R Dd Dd' H, kvs[i]? = some (k, v) → HI H ((L, .lst acc) :: R) Dd' → Ex Dd Dd' → Dd' T = some (.tup [kV k, v]) → I i acc R Dd → acc.length ≤ i → g (.ref T) (wipe σ vs) H fun σ2 H2 => wipe σ2 vs = wipe σ vs ∧ tt σ2 H2 fun b H3 => if b = true then te σ2 H3 (LE L I (i + 1)) else PW' L I (i + 1) H3)
    (hd : ∀ L acc R Dd H, HI H ((L, .lst acc) :: R) Dd → I kvs.length acc R Dd → acc.length ≤ kvs.length → Q (.ref L) H) : LcK (Iti d o kvs) g tt te vs σ H Q :=
  lc_hi walk_items I hi h0 (fun i acc R Dd H _ q p => q.get (hl i acc R Dd p)) (fun L i acc v R Dd H H' hn1 hi1 b c y => by
    obtain ⟨T, x, z, rfl, hT, rfl, e1, e2⟩ := y
    have hlt : i < kvs.length := hn1
    have e3 := List.getElem?_eq_getElem hlt
    generalize kvs[i] = kv at e3
    have e1' : kvs[i]?.map (fun kv => kV kv.1) = some x := e1
    have e2' : kvs[i]?.map Prod.snd = some z := e2
    rw [e3] at e1' e2'
    cases e1'
    cases e2'
    exact hs L i acc kv.1 kv.2 T R Dd _ _ e3 (hi1.newD hT) (Ex.new (hi1.free hT)) upd_same b c) hd
end
end Wk
set_option maxRecDepth 100000
set_option maxHeartbeats 4000000
namespace Wk
open PySem PySem.Spec PyProof.Rows L2
/-- a short text is shown -/
def ShS (K : PySem.W.Frag) (H : Hp) (v : V) (n k : Nat) : Prop := ∃ t m, Shw K H v t m ∧ t.length ≤ n ∧ m ≤ k
def ShLs (K : PySem.W.Frag) (H : Hp) (vs : List V) (n k : Nat) : Prop := ∃ ts m, ShwL K H vs ts m ∧ ts.length = vs.length ∧ (∀ t ∈ ts, t.length ≤ n) ∧ m ≤ k
section
variable {K : PySem.W.Frag} {H H' D D' : Hp} {v : V} {n k n' k' : Nat}
theorem ShS.mono (h : ShS K H v n k) (x : Ex H H') : ShS K H' v n k := let ⟨t, m, a, b, c⟩ := h; ⟨t, m, a.mono x, b, c⟩
theorem ShLs.nil : ShLs K H [] n k := ⟨[], 0, .nil, rfl, all_n, Nat.zero_le _⟩
theorem ShLs.cons {vs : List V} (h : ShS K H v n k) (l : ShLs K H vs n k) : ShLs K H (v :: vs) n k := by
  obtain ⟨t, m, a, b, c⟩ := h
  obtain ⟨ts, m', d, e, f, g⟩ := l
  exact ⟨t :: ts, _, .cons a d, by rw [List.length_cons, e]; rfl, all_c b f, by omega⟩
theorem ShLs.of : ∀ {vs : List V}, (∀ v ∈ vs, ShS K H v n k) → ShLs K H vs n k
  | [], _ => .nil
  | v :: vs, h => .cons (h v (List.mem_cons_self ..)) (ShLs.of fun u hu => h u (List.mem_cons_of_mem _ hu))
theorem len_sum {ts : List Str} {n : Nat} (h : ∀ t ∈ ts, t.length ≤ n) : (ts.map (·.length)).sum ≤ n * ts.length := by
  induction ts with
  | nil => exact Nat.zero_le _
  | cons t ts ih =>
    have h1 := h t (List.mem_cons_self ..)
    have h2 := ih fun u hu => h u (List.mem_cons_of_mem _ hu)
    simp only [List.map_cons, List.sum_cons, List.length_cons, Nat.mul_succ]
    omega
theorem tupleText_len (ts : List Str) : (tupleText ts).length ≤ (ts.map (·.length)).sum + 2 * ts.length + 3 := by
  have jl := join_len (Str.ofString ", ") ts
  have e1 : (Str.ofString ", ").length = 2 := rfl
  have e2 : (Str.ofString "(").length = 1 := rfl
  have e3 : (Str.ofString ")").length = 1 := rfl
  have e4 : (Str.ofString ",)").length = 2 := rfl
  rw [e1] at jl
  match ts, jl with
  | [], jl => exact Nat.le_trans (show (tupleText []).length ≤ 3 by decide +kernel) (by omega)
  | [x], jl =>
    show ((Str.ofString "(") ++ x ++ (Str.ofString ",)")).length ≤ _
    rw [len_app, len_app, e2, e4]
    simp only [List.length_cons, List.length_nil, List.map_cons, List.map_nil, List.sum_cons, List.sum_nil]
    omega
  | x :: y :: r, jl =>
    show ((Str.ofString "(") ++ Str.join (Str.ofString ", ") (x :: y :: r) ++ (Str.ofString ")")).length ≤ _
    rw [len_app, len_app, e2, e3]
    omega
theorem dictText_len (ts : List Str) : (dictText ts).length ≤ (ts.map (·.length)).sum + 2 * ts.length + 3 := by
  have jl := join_len (Str.ofString ", ") ts
  have e1 : (Str.ofString ", ").length = 2 := rfl
  have e2 : (Str.ofString "{").length = 1 := rfl
  have e3 : (Str.ofString "}").length = 1 := rfl
  rw [e1] at jl
  show ((Str.ofString "{") ++ Str.join (Str.ofString ", ") ts ++ (Str.ofString "}")).length ≤ _
  rw [len_app, len_app, e2, e3]
  omega
theorem ShS.non : ShS K H .non 4 0 := ⟨_, _, .non, by decide +kernel, Nat.le_refl _⟩
theorem ShS.bl (b : Bool) : ShS K H (.bl b) 5 0 := by cases b <;> exact ⟨_, _, .bl _, by decide +kernel, Nat.le_refl _⟩
theorem ShS.int {i : Int} (h : i.natAbs < 10 ^ 30) : ShS K H (.int i) 31 0 := ⟨_, _, .int i (log2_small (by omega)), (tst h).1, Nat.le_refl _⟩
theorem ShS.str {z : Str} (h : Sg z) : ShS K H (.str z) (10 * z.length + 2) 0 := ⟨_, _, .str z, repr_len h, Nat.le_refl _⟩
theorem ShS.exc {a d C t1 : Addr} {z : Str} (e : H a = some (exq a C (some d) t1)) (e2 : H t1 = some (.tup [.str z])) (q : ExQ K C) (h : Sg z) (l : z.length ≤ 60) : ShS K H (.ref a) 800 1 := by
  refine ⟨_, _, .exc e e2 q, ?_, Nat.le_refl _⟩
  have h1 := q.hl
  have h2 := repr_len h
  rw [len_app, len_app, len_app]
  have e2 : (Str.ofString "(").length = 1 := rfl
  have e3 : (Str.ofString ")").length = 1 := rfl
  omega
theorem ShS.lst {a : Addr} {vs : List V} (e : H a = some (.lst vs)) (l : ShLs K H vs n k) : ShS K H (.ref a) (n * vs.length + 2 * vs.length + 3) (k + 1) := by
  obtain ⟨ts, m, a, b, c, d⟩ := l
  refine ⟨_, _, .lst e a, ?_, by omega⟩
  have h1 := len_sum c
  have h2 := PySem.listText_len_le ts
  rw [b] at h1 h2
  omega
theorem ShS.tup {a : Addr} {vs : List V} (e : H a = some (.tup vs)) (l : ShLs K H vs n k) : ShS K H (.ref a) (n * vs.length + 2 * vs.length + 3) (k + 1) := by
  obtain ⟨ts, m, a, b, c, d⟩ := l
  refine ⟨_, _, .tup e a, ?_, by omega⟩
  have h1 := len_sum c
  have h2 := tupleText_len ts
  rw [b] at h1 h2
  omega
/-- a small key -/
def SmK : Key → Prop
  | .inl i => i.natAbs < 10 ^ 30
  | .inr z => Sg z ∧ z.length ≤ 60
theorem SmK.kt {q : Key} (h : SmK q) : ∃ t, KT q t ∧ t.length ≤ 700 := by
  cases q with
  | inl i => exact ⟨_, .int i (log2_small (by have : i.natAbs < 10 ^ 30 := h; omega)), Nat.le_trans (tst (i := i) h).1 (by decide)⟩
  | inr z => exact ⟨_, .str z, by have := repr_len h.1; have := h.2; omega⟩
theorem shwK_of : ∀ {kvs : List (Key × V)}, (∀ p ∈ kvs, SmK p.1 ∧ ShS K H p.2 n k) → ∃ ts m, ShwK K H kvs ts m ∧ ts.length = kvs.length ∧ (∀ t ∈ ts, t.length ≤ n + 702) ∧ m ≤ k
  | [], _ => ⟨[], 0, .nil, rfl, all_n, Nat.zero_le _⟩
  | (q, v) :: kvs, h => by
    obtain ⟨ts, m, a, b, c, d⟩ := shwK_of (kvs := kvs) fun p hp => h p (List.mem_cons_of_mem _ hp)
    obtain ⟨h1, t, m1, h2, h3, h4⟩ := h _ (List.mem_cons_self ..)
    obtain ⟨kt, h5, h6⟩ := h1.kt
    refine ⟨_ :: ts, _, .cons h5 h2 a, by rw [List.length_cons, b]; rfl, all_c ?_ c, by omega⟩
    rw [len_app, len_app]
    have e2 : (Str.ofString ": ").length = 2 := rfl
    omega
theorem ShS.dict {a : Addr} {kvs : List (Key × V)} (e : H a = some (.dK kvs)) (l : ∀ p ∈ kvs, SmK p.1 ∧ ShS K H p.2 n k) : ShS K H (.ref a) ((n + 702) * kvs.length + 2 * kvs.length + 3) (k + 1) := by
  obtain ⟨ts, m, a, b, c, d⟩ := shwK_of l
  refine ⟨_, _, .dict e a, ?_, by omega⟩
  have h1 := len_sum c
  have h2 := dictText_len ts
  rw [b] at h1 h2
  omega
/-- a flat small value -/
inductive Fl : V → Prop
  | non : Fl .non
  | bl (b : Bool) : Fl (.bl b)
  | int {i : Int} (h : i.natAbs < 10 ^ 30) : Fl (.int i)
  | str {z : Str} (h : Sg z) (l : z.length ≤ 60) : Fl (.str z)
/-- an odd cell: a list or a dict of at most m flat values -/
inductive OkO (m : Nat) : HO → Prop
  | lst {xs : List V} (h : ∀ x ∈ xs, Fl x) (l : xs.length ≤ m) : OkO m (.lst xs)
  | dict {kvs : List (Key × V)} (h : ∀ p ∈ kvs, SmK p.1 ∧ Fl p.2) (l : kvs.length ≤ m) : OkO m (.dK kvs)
theorem OkO.ld {m : Nat} {o : HO} (h : OkO m o) : LD o := by
  cases h with
  | lst a b => exact .inl ⟨_, rfl⟩
  | dict a b => exact .inr ⟨_, rfl⟩
/-- a thing that is data, or one of the odd cells; P of its type -/
inductive Odt (K : PySem.W.Frag) (P : Value → Prop) (as : List Addr) (D : Hp) : V → Prop
  | dat {v : V} {k : Knd} {t : Value} (kn : Kn K D v k) (ty : Ty K D v t) (p : P t) (s : ShS K D v 30000 20) (z : ∀ z, v = .str z → TxtOk z) (nl : k.is "list" = false) (nd : k.is "dict" = false) : Odt K P as D v
  | cell {a : Addr} (m : a ∈ as) : Odt K P as D (.ref a)
theorem Odt.mono {P : Value → Prop} {as : List Addr} (h : Odt K P as D v) (x : Ex D D') : Odt K P as D' v := by
  cases h with
  | dat kn ty p s z a b => exact .dat (kn.mono x) (ty.mono x) p (s.mono x) z a b
  | cell m => exact .cell m
theorem Odt.sub {P : Value → Prop} {as bs : List Addr} (h : Odt K P as D v) (x : ∀ a ∈ as, a ∈ bs) : Odt K P bs D v := by
  cases h with
  | dat kn ty p s z a b => exact .dat kn ty p s z a b
  | cell m => exact .cell (x _ m)
theorem Odt.imp {P P' : Value → Prop} {as : List Addr} (h : Odt K P as D v) (x : ∀ t, P t → P' t) : Odt K P' as D v := by
  cases h with
  | dat kn ty p s z a b => exact .dat kn ty (x _ p) s z a b
  | cell m => exact .cell m
section
variable {P : Value → Prop} {OC R : Cells} {m : Nat}
theorem mem_fst {OC : Cells} {a : Addr} (h : a ∈ OC.map (·.1)) : ∃ o, (a, o) ∈ OC := by
  obtain ⟨c, hc, rfl⟩ := List.mem_map.mp h
  exact ⟨c.2, hc⟩
theorem Odt.ty (h : Odt K P (OC.map (·.1)) D v) (ok : ∀ c ∈ OC, OkO m c.2) (s : ∀ c ∈ OC, c ∈ R) (p1 : P (.type "list")) (p2 : P (.type "dict")) : ∃ t, TyC K R D v t ∧ P t := by
  cases h with
  | dat kn ty p s z a b => exact ⟨_, .inl ty, p⟩
  | cell hm =>
    obtain ⟨o, hc⟩ := mem_fst hm
    have hs := s _ hc
    have l : LD o := (ok _ hc).ld
    rcases l with ⟨xs, rfl⟩ | ⟨kvs, rfl⟩
    · exact ⟨_, .inr (.inl ⟨_, xs, rfl, hs, rfl⟩), p1⟩
    · exact ⟨_, .inr (.inr ⟨_, kvs, rfl, hs, rfl⟩), p2⟩
end
end
theorem HI.front {H D : Hp} {A B : Cells} {c : Addr × HO} (h : HI H (A ++ c :: B) D) : HI H (c :: (A ++ B)) D := h.perm List.perm_middle
theorem HI.up4 {H D : Hp} {R : Cells} {x y z u v : Addr × HO} (h : HI H (x :: y :: z :: u :: v :: R) D) : HI H (v :: x :: y :: z :: u :: R) D := HI.front (A := [x, y, z, u]) h
/-- one more item, one more key -/
theorem OkO.app {m : Nat} {xs : List V} {v : V} (h : OkO m (.lst xs)) (f : Fl v) : OkO (m + 1) (.lst (xs ++ [v])) := by
  cases h with
  | lst a b =>
    refine .lst (fun x hx => ?_) (by rw [List.length_append]; exact Nat.succ_le_succ b)
    rcases List.mem_append.mp hx with h | h
    · exact a x h
    · rw [List.mem_singleton.mp h]
      exact f
theorem OkO.put {m : Nat} {kvs : List (Key × V)} {q : Key} {v : V} (h : OkO m (.dK kvs)) (k : SmK q) (f : Fl v) : OkO (m + 1) (.dK (putK kvs q v)) := by
  cases h with
  | dict a b =>
    refine .dict (fun p hp => ?_) (Nat.le_trans (length_putK kvs q v) (Nat.succ_le_succ b))
    unfold putK at hp
    split at hp
    · obtain ⟨p0, h0, e⟩ := List.mem_map.mp hp
      by_cases g : p0.1 = q
      · rw [if_pos g] at e
        rw [← e]
        exact ⟨(a p0 h0).1, f⟩
      · rw [if_neg g] at e
        rw [← e]
        exact a p0 h0
    · rcases List.mem_append.mp hp with h | h
      · exact a p h
      · rw [List.mem_singleton.mp h]
        exact ⟨k, f⟩
/-- a display that stays a cell -/
def tDispM (trs : List (TE × TE)) : TE := tDisp trs
theorem se_dispM {σ : L2.St} {H : Hp} {Q : VK} {D : Hp} {R : Cells} {trs : List (TE × TE)} (hi : HI H R D) (h : ∀ p H1, HI H1 ((p, .dK []) :: R) D → tPairs trs σ H1 fun ps H2 => DispP p ps H2 Q) : tDispM trs σ H Q := fun p hp => h p _ (hi.new hp)
theorem disp_nowM {H : Hp} {Q : VK} {p : Addr} {ps : List (V × V)} {kvs : List (Key × V)} {R : Cells} {D : Hp} (hi : HI H ((p, .dK []) :: R) D) (e : keysOf ps = some kvs) (hl : kvs.length ≤ 15) (k : ∀ H', HI H' ((p, .dK (mergeK [] kvs)) :: R) D → Q (.ref p) H') : DispP p ps H Q :=
  ⟨hi.get (List.mem_cons_self ..), kvs, keysOf_ok e, hl, k _ (hi.set (u := .dK (mergeK [] kvs)))⟩
/-- two tuples that say the same: a word and an odd thing, or data -/
def TwoS (K : PySem.W.Frag) (P : Value → Prop) (as : List Addr) (D : Hp) (p1 p2 : Addr) : Prop := (∃ (w : Str) (v : V), D p1 = some (.tup [.str w, v]) ∧ D p2 = some (.tup [.str w, v]) ∧ Sg w ∧ w.length ≤ 60 ∧ Odt K P as D v) ∨
  ∃ t n, Shw K D (.ref p1) t n ∧ Shw K D (.ref p2) t n ∧ t.length ≤ 100000 ∧ n ≤ 40
section
variable {K : PySem.W.Frag} {H H' D D' : Hp} {P : Value → Prop} {OC R : Cells} {m : Nat} {p1 p2 : Addr} {as : List Addr}
theorem TwoS.mono (h : TwoS K P as D p1 p2) (x : Ex D D') : TwoS K P as D' p1 p2 := by
  rcases h with ⟨w, v, a, b, c, d, e⟩ | ⟨t, n, a, b, c, d⟩
  · exact .inl ⟨w, v, x _ _ a, x _ _ b, c, d, e.mono x⟩
  · exact .inr ⟨t, n, a.mono x, b.mono x, c, d⟩
end
/-- the list at pp, a cell or data -/
def PAt (R : Cells) (D : Hp) (pp : Addr) (xs : List V) : Prop := ((pp, HO.lst xs) : Addr × HO) ∈ R ∨ D pp = some (.lst xs)
theorem PAt.h {R : Cells} {D H : Hp} {pp : Addr} {xs : List V} (m : PAt R D pp xs) (hI : HI H R D) : H pp = some (.lst xs) := m.elim hI.get hI.dat
theorem st_par3 {i j l : Nat} {t : TA} {D : Ends} {σ : L2.St} {H : Hp} (h : t σ H fun vs H1 => ∃ u v w, vs = [u, v, w] ∧ D.nx (((σ.set i (some u)).set j (some v)).set l (some w)) H1) : tPar3 i j l t D σ H := h
theorem par3_mk {x y z : V} {P : V → V → V → Prop} (h : P x y z) : ∃ u v w, [x, y, z] = [u, v, w] ∧ P u v w := ⟨x, y, z, rfl, h⟩
end Wk
set_option maxRecDepth 100000
set_option maxHeartbeats 4000000
namespace Wk
open PySem PySem.Spec PyProof.Rows L2
/-- a value that is equal to itself by a look -/
def Sf (v : V) : Prop := flatB v = true ∨ ∃ a, v = .ref a
theorem Sf.ref (a : Addr) : Sf (.ref a) := .inr ⟨a, rfl⟩
theorem paired_get {α β : Type} {r : α → β → Prop} : ∀ {xs : List α} {ys : List β} {i : Nat} {x : α}, Paired r xs ys → xs[i]? = some x → ∃ y, ys[i]? = some y ∧ r x y
  | _, _, _, _, .nil, e => by simp at e
  | _, _, 0, _, .cons h _, e => by
    simp at e
    subst e
    exact ⟨_, rfl, h⟩
  | _, _, i + 1, _, .cons _ l, e => by
    obtain ⟨y, a, b⟩ := paired_get (i := i) l (by simpa using e)
    exact ⟨y, by simpa using a, b⟩
theorem fil_one {α : Type} {P : α → Bool} {a : α} : [a].filter P = if P a = true then [a] else [] := by
  by_cases h : P a = true
  · rw [if_pos h, List.filter_cons_of_pos h, List.filter_nil]
  · rw [if_neg h, List.filter_cons_of_neg h, List.filter_nil]
inductive RGetL : V → V → Hp → VK → Prop
  | l {p : Addr} {xs : List V} {i : Int} {v : V} {H : Hp} {Q : VK} : H p = some (.lst xs) → 0 ≤ i → xs[i.toNat]? = some v → Q v H → RGetL (.ref p) (.int i) H Q
theorem get_list {X : Cx} : PGet X RGetL := by
  intro pins s σ H o i ov iv Q I ro ri h
  cases h with
  | @l p xs i v _ _ e h0 hi q =>
    obtain rfl : ov = Value.ref p := ro
    obtain ⟨t, rfl⟩ := ri
    obtain ⟨its, r, pl, hz⟩ := I.list (SqL.of e)
    obtain ⟨w, ew, rw'⟩ := r.get hi
    have hl := r.length
    have hn := line63
    have hi2 := (List.getElem?_eq_some_iff.mp hi).1
    exact wpAny_getItem_list pl.isList h0 (by omega) (by simpa using ew) ⟨v, H, I, rw', q⟩
theorem st_augS {to ti te : TE} {tget : V → V → Hp → VK → Prop} {tip : TIp} {tset : TSet} {D : Ends} {σ : L2.St} {H : Hp} (h : to σ H fun o H1 => ti σ H1 fun i H2 => tget o i H2 fun x H3 => te σ H3 fun y H4 => tip x y H4 fun z H5 => tset o i z H5 fun H6 => D.nx σ H6) : tAugS to ti te tget tip tset D σ H := h
section
variable {K : PySem.W.Frag} {g : TG} {tb : TS} {D : Ends} {σ : L2.St} {H D0 : Hp} {R0 Rs : Cells} {tt : TT} {te : TE} {vs : List Nat} {Q : VK} {a : Addr} {xs : List V}
/-- a walk over a list or a tuple that stands in Rs, while other cells change -/
theorem for_seqR (s : Sq3 Rs D0 a xs) (hR : ∀ q ∈ Rs, q ∈ R0) (I : Nat → L2.St → Cells → Hp → Prop) (hi : HI H R0 D0) (h0 : I 0 σ R0 D0) (hl : ∀ i σ R Dd, I i σ R Dd → (∀ q ∈ Rs, q ∈ R) ∧ Ex D0 Dd)
    (hs : ∀ (i : Nat) x σ R Dd H, xs[i]? = some x → HI H R Dd → I i σ R Dd → g x σ H fun σ2 H2 => tb { D with nx := NX I (i + 1), ct := NX I (i + 1), bk := D.nx } σ2 H2) (hd : ∀ σ R Dd H, HI H R Dd → I xs.length σ R Dd → D.nx σ H) :
    (∃ b, V.ref a = .ref b ∧ (∃ xs, SqL K H b xs) ∧ ForK (Itl K b) g tb D σ H) ∨ ∃ b, V.ref a = .ref b ∧ (∃ xs, SqT K H b xs) ∧ ForK (Itt K b) g tb D σ H := by
  cases s with
  | l e => exact .inl ⟨a, rfl, ⟨xs, SqL.of (hi.dat e)⟩, for_lst I hi h0 (fun i σ R Dd p => (hl i σ R Dd p).2 _ _ e) hs hd⟩
  | t e => exact .inr ⟨a, rfl, ⟨xs, SqT.of (hi.dat e)⟩, for_tup I hi h0 (fun i σ R Dd p => (hl i σ R Dd p).2 _ _ e) hs hd⟩
  | c m => exact .inl ⟨a, rfl, ⟨xs, SqL.of (hi.get (hR _ m))⟩, for_hi walk_list I hi h0 (fun i σ R Dd H _ q p => SqL.of (q.get ((hl i σ R Dd p).1 _ m))) (fun i x σ R Dd H H' hn a b y => by
      obtain ⟨rfl, y⟩ := y
      exact hs i x σ R Dd H' y a b) hd⟩
end
theorem sm_kv {n k : Nat} : ∀ {ds : List (PyData × PyData)}, (∀ d ∈ ds, Sm d.1 n k ∧ Sm d.2 n k) → PyData.showableKv ds = true ∧ (((PyData.shownKv ds).map (·.length)).sum ≤ (2 * n + 2) * ds.length ∧ (PyData.shownKv ds).length = ds.length) ∧ PyData.depthKv ds ≤ k
  | [], _ => ⟨rfl, ⟨Nat.zero_le _, rfl⟩, Nat.zero_le _⟩
  | (x, y) :: ds, h => by
    obtain ⟨a, ⟨b, c⟩, e⟩ := sm_kv (ds := ds) fun z hz => h z (List.mem_cons_of_mem _ hz)
    obtain ⟨⟨a1, b1, e1⟩, ⟨a2, b2, e2⟩⟩ := h (x, y) (List.mem_cons_self ..)
    dsimp only at a1 b1 e1 a2 b2 e2
    refine ⟨?_, ⟨?_, ?_⟩, ?_⟩
    · simp only [PyData.showableKv, a1, a2, a, Bool.and_self]
    · simp only [PyData.shownKv, List.map_cons, List.sum_cons, List.length_cons, Nat.mul_succ]
      rw [len_app, len_app, show (": " : Str).length = 2 from rfl]
      omega
    · simp only [PyData.shownKv, List.length_cons, c]
    · simp only [PyData.depthKv]
      omega
theorem Sm.dict {n k : Nat} {ds : List (PyData × PyData)} (h : ∀ d ∈ ds, Sm d.1 n k ∧ Sm d.2 n k) : Sm (.dict ds) ((2 * n + 2) * ds.length + 2 * ds.length + 3) (k + 1) := by
  obtain ⟨a, ⟨b, c⟩, e⟩ := sm_kv h
  refine ⟨by simpa only [PyData.showable] using a, ?_, by simp only [PyData.depth]; omega⟩
  have jl := PySem.dictText_len_le (PyData.shownKv ds)
  rw [c] at jl
  have e4 : (PyData.dict ds).shown = PySem.dictText (PyData.shownKv ds) := by simp only [PyData.shown]
  rw [e4]
  omega
/-- a tuple's parts within a comprehension -/
theorem pg_tupC {X : Cx} {K : PySem.W.Frag} {es : List Expr} {k : Nat} {t : TGs} {n : Nat} {pos : Pos} (hc : X.calm = true) (h : PGs X es t) (hn : (assignEach es X.env).length = n) (hst : (assignEach es X.env).findIdx? (·.1) = none) (hK : X.K = K) : PG X (.Tuple es k pos) (gTup K n t) := by
  subst hK
  exact pg_tup hc h hn hst
def RvP (K : PySem.W.Frag) (x : V) (H : Hp) (Q : VK) : Prop := ∃ a xs, x = .ref a ∧ SqL K H a xs ∧ AlD (.lst xs.reverse) H Q
theorem se_revL {K : PySem.W.Frag} {te : TE} {σ : L2.St} {H : Hp} {Q : VK} (h : te σ H fun x H1 => RvP K x H1 Q) : tRevL K te σ H Q := h
theorem rv_mk {K : PySem.W.Frag} {H : Hp} {Q : VK} {a : Addr} {xs : List V} (e : H a = some (.lst xs)) (q : AlD (.lst xs.reverse) H Q) : RvP K (.ref a) H Q := ⟨a, xs, rfl, SqL.of e, q⟩
end Wk
set_option maxRecDepth 100000
set_option maxHeartbeats 400000
namespace Wk
open PySem PySem.Spec PyProof.Rows L2
/-- items that tell their place are unlike -/
theorem nodup_key {α β : Type} {ys : List α} (key : α → β) (f : Nat → β) (h : ∀ i y, ys[i]? = some y → key y = f i) (inj : ∀ i j, i < ys.length → j < ys.length → f i = f j → i = j) : ys.Nodup := by
  refine List.pairwise_iff_getElem.mpr fun i j hi hj hij e => ?_
  have k1 := h _ _ (List.getElem?_eq_getElem hi)
  have k2 := h _ _ (List.getElem?_eq_getElem hj)
  rw [e] at k1
  have := inj i j hi hj (k1.symm.trans k2)
  omega
/-- one more, that tells its place -/
theorem key_snoc {α β : Type} {ys : List α} {y : α} {key : α → β} {f : Nat → β} (h : ∀ i y, ys[i]? = some y → key y = f i) (e : key y = f ys.length) : ∀ i z, (ys ++ [y])[i]? = some z → key z = f i := by
  intro i z hz
  rcases Nat.lt_or_ge i ys.length with hl | hl
  · rw [List.getElem?_append_left hl] at hz
    exact h i z hz
  · rw [List.getElem?_append_right hl] at hz
    have h0 : i - ys.length = 0 := by
      have := (List.getElem?_eq_some_iff.mp hz).1
      simp at this
      omega
    rw [h0] at hz
    have : i = ys.length := by omega
    subst this
    cases hz
    exact e
theorem nodup_at {α β : Type} {W : List β} (hW : W.Nodup) {ys : List α} (key : α → Option β) (ix : Nat → Nat) (h : ∀ i y, ys[i]? = some y → key y = W[ix i]?) (hb : ∀ i, i < ys.length → ix i < W.length) (inj : ∀ i j, i < ys.length → j < ys.length → ix i = ix j → i = j) : ys.Nodup :=
  nodup_key key (fun i => W[ix i]?) h fun i j hi hj e => inj i j hi hj ((List.getElem?_inj (hb i hi) hW).mp e)
/-- a sign of a text, a text of a list, with its place -/
theorem RIx.sgnI {z : Str} {r : Int} {H : Hp} {Q : VK} (hl : z.length ≤ 1000000) (h0 : 0 ≤ r) (h1 : r < z.length) (q : ∀ c, c ∈ z.cps.toList → z.cps.toList[r.toNat]? = some c → Q (.str ⟨#[c]⟩) H) : RIx (.str z) (.int r) H Q := by
  have hn : r.toNat < z.cps.toList.length := by
    show r.toNat < z.length
    omega
  have e := List.getElem?_eq_getElem hn
  exact RIx.s (small_ok hl) ((atI_ofI h0).trans e) (q _ (List.getElem_mem hn) e)
theorem RIx.strI {p : Addr} {ys : List Str} {r : Int} {H : Hp} {Q : VK} (e : H p = some (.lst (ys.map V.str))) (h0 : 0 ≤ r) (h1 : r < ys.length) (q : ∀ y, y ∈ ys → ys[r.toNat]? = some y → Q (.str y) H) : RIx (.ref p) (.int r) H Q := by
  have hn : r.toNat < ys.length := by omega
  have g := List.getElem?_eq_getElem hn
  refine RIx.l e ((atI_ofI h0).trans ?_) (q _ (List.getElem_mem hn) g)
  rw [List.getElem?_map, g]
  rfl
theorem mid_at {a b : Str} {c k : Nat} (h : a.length = k) : (a ++ ⟨#[c]⟩ ++ b).cps.toList[k]? = some c := by
  have h2 : a.cps.toList.length = k := h
  rw [tl_app, tl_app, List.append_assoc, List.getElem?_append_right (by omega), h2, Nat.sub_self]
  rfl
end Wk
set_option maxRecDepth 100000
set_option maxHeartbeats 4000000
namespace Wk
open PySem PySem.Spec PyProof.Rows L2
def top (i : Nat) : Stmt := PySem.Challenge.pw_weekheads_k27_whole_later_and_called_oth.main.body.getD i (.Pass ⟨0, 0, 0, 0⟩)
abbrev s__wall : Stmt := top 0
abbrev s_NoName_init : Stmt := inClass (top 3) 0
abbrev s_NoNumber_init : Stmt := inClass (top 4) 0
abbrev s_NoSort_init : Stmt := inClass (top 5) 0
abbrev s_NoYear_init : Stmt := inClass (top 6) 0
abbrev s_NoWeek_init : Stmt := inClass (top 7) 0
abbrev s_NoRow_init : Stmt := inClass (top 8) 0
abbrev s_NoStay_init : Stmt := inClass (top 9) 0
abbrev s_NoRests_init : Stmt := inClass (top 10) 0
abbrev s_NoList_init : Stmt := inClass (top 11) 0
abbrev s_is_whole : Stmt := top 15
abbrev s_is_name : Stmt := top 16
abbrev s_two_figures : Stmt := top 17
abbrev s_need_name : Stmt := top 22
abbrev s_need_number : Stmt := top 23
abbrev s_Sort_init : Stmt := inClass (top 24) 0
abbrev s_Sort_eq : Stmt := inClass (top 24) 1
abbrev s_Sort_str : Stmt := inClass (top 24) 2
abbrev s_Sort_repr : Stmt := inClass (top 24) 3
abbrev s_Sort_name : Stmt := inClass (top 24) 4
abbrev s_Sort_kin : Stmt := inClass (top 24) 5
abbrev s_Sort_needs : Stmt := inClass (top 24) 6
abbrev s_Sort_keeps : Stmt := inClass (top 24) 7
abbrev s_Sort_bears : Stmt := inClass (top 24) 8
abbrev s_Sort_told : Stmt := inClass (top 24) 9
abbrev s_Sort_changed : Stmt := inClass (top 24) 10
abbrev s_Row_init : Stmt := inClass (top 28) 0
abbrev s_Row_eq : Stmt := inClass (top 28) 1
abbrev s_Row_str : Stmt := inClass (top 28) 2
abbrev s_Row_repr : Stmt := inClass (top 28) 3
abbrev s_Row_of_sort : Stmt := inClass (top 28) 4
abbrev s_Row_week : Stmt := inClass (top 28) 5
abbrev s_Row_heads : Stmt := inClass (top 28) 6
abbrev s_Row_told : Stmt := inClass (top 28) 7
abbrev s_Row_later : Stmt := inClass (top 28) 8
abbrev s_is_warmth : Stmt := top 33
abbrev s_is_cold : Stmt := top 34
abbrev s_is_pair : Stmt := top 35
abbrev s_Year_init : Stmt := inClass (top 36) 0
abbrev s_Year_len : Stmt := inClass (top 36) 1
abbrev s_Year_eq : Stmt := inClass (top 36) 2
abbrev s_Year_need_week : Stmt := inClass (top 36) 3
abbrev s_Year_pair : Stmt := inClass (top 36) 4
abbrev s_Year_tell : Stmt := inClass (top 36) 5
abbrev s_Year_back : Stmt := inClass (top 36) 6
abbrev s_Year_warmth : Stmt := inClass (top 36) 7
abbrev s_Year_cold : Stmt := inClass (top 36) 8
abbrev s_Year_warm_sum : Stmt := inClass (top 36) 9
abbrev s_Year_coldest : Stmt := inClass (top 36) 10
abbrev s_Year_told : Stmt := inClass (top 36) 11
abbrev s_Year_weeks : Stmt := inClass (top 36) 12
abbrev s_Year_copied : Stmt := inClass (top 36) 13
abbrev s_need_row : Stmt := top 39
abbrev s_need_rows : Stmt := top 40
abbrev s_need_year : Stmt := top 41
abbrev s_ripe_in : Stmt := top 42
abbrev s_last_in : Stmt := top 43
abbrev s_lost_in : Stmt := top 44
abbrev s_ready_in : Stmt := top 45
abbrev s_ripe_week : Stmt := top 46
abbrev s_last_stand : Stmt := top 47
abbrev s_lost_week : Stmt := top 48
abbrev s_ready : Stmt := top 49
abbrev s_state : Stmt := top 50
abbrev s_week_heads : Stmt := top 51
abbrev s_moved : Stmt := top 52
abbrev s_are_rests : Stmt := top 57
abbrev s_need_rests : Stmt := top 58
abbrev s_may_follow : Stmt := top 59
abbrev s_Stay_init : Stmt := inClass (top 60) 0
abbrev s_Stay_eq : Stmt := inClass (top 60) 1
abbrev s_Stay_str : Stmt := inClass (top 60) 2
abbrev s_Stay_repr : Stmt := inClass (top 60) 3
abbrev s_Stay_row : Stmt := inClass (top 60) 4
abbrev s_Stay_first : Stmt := inClass (top 60) 5
abbrev s_Stay_last : Stmt := inClass (top 60) 6
abbrev s_Stay_kin : Stmt := inClass (top 60) 7
abbrev s_Stay_told : Stmt := inClass (top 60) 8
abbrev s_Stay_behind : Stmt := inClass (top 60) 9
abbrev s_l_cell : Stmt := top 62
abbrev s_l_box : Stmt := top 63
abbrev s_l_take : Stmt := top 64
abbrev s_l_names : Stmt := top 65
abbrev s_l_weeks : Stmt := top 66
abbrev s_l_ripe : Stmt := top 67
abbrev s_l_last : Stmt := top 68
abbrev s_l_lost : Stmt := top 69
abbrev s_l_cut : Stmt := top 70
abbrev s_l_numbers : Stmt := top 71
abbrev s_l_scene : Stmt := top 72
abbrev s_l_rows : Stmt := top 73
abbrev s_l_later : Stmt := top 74
abbrev s_l_told : Stmt := top 75
abbrev s_l_own : Stmt := top 76
abbrev s_l_states : Stmt := top 77
abbrev s_l_stays_right : Stmt := top 78
abbrev s_l_right : Stmt := top 79
abbrev s_law : Stmt := top 80
def d__wall : He.DefD := ⟨("_wall", none), "_wall", "_wall", defArgs s__wall, defBody s__wall, defScope s__wall, [], []⟩
def d_NoName_init : He.DefD := ⟨("NoName", some "__init__"), "__init__", "NoName.__init__", defArgs s_NoName_init, defBody s_NoName_init, defScope s_NoName_init, [], []⟩
def d_NoNumber_init : He.DefD := ⟨("NoNumber", some "__init__"), "__init__", "NoNumber.__init__", defArgs s_NoNumber_init, defBody s_NoNumber_init, defScope s_NoNumber_init, [], []⟩
def d_NoSort_init : He.DefD := ⟨("NoSort", some "__init__"), "__init__", "NoSort.__init__", defArgs s_NoSort_init, defBody s_NoSort_init, defScope s_NoSort_init, [], []⟩
def d_NoYear_init : He.DefD := ⟨("NoYear", some "__init__"), "__init__", "NoYear.__init__", defArgs s_NoYear_init, defBody s_NoYear_init, defScope s_NoYear_init, [], []⟩
def d_NoWeek_init : He.DefD := ⟨("NoWeek", some "__init__"), "__init__", "NoWeek.__init__", defArgs s_NoWeek_init, defBody s_NoWeek_init, defScope s_NoWeek_init, [], []⟩
def d_NoRow_init : He.DefD := ⟨("NoRow", some "__init__"), "__init__", "NoRow.__init__", defArgs s_NoRow_init, defBody s_NoRow_init, defScope s_NoRow_init, [], []⟩
def d_NoStay_init : He.DefD := ⟨("NoStay", some "__init__"), "__init__", "NoStay.__init__", defArgs s_NoStay_init, defBody s_NoStay_init, defScope s_NoStay_init, [], []⟩
def d_NoRests_init : He.DefD := ⟨("NoRests", some "__init__"), "__init__", "NoRests.__init__", defArgs s_NoRests_init, defBody s_NoRests_init, defScope s_NoRests_init, [], []⟩
def d_NoList_init : He.DefD := ⟨("NoList", some "__init__"), "__init__", "NoList.__init__", defArgs s_NoList_init, defBody s_NoList_init, defScope s_NoList_init, [], []⟩
def d_is_whole : He.DefD := ⟨("is_whole", none), "is_whole", "is_whole", defArgs s_is_whole, defBody s_is_whole, defScope s_is_whole, [], []⟩
def d_is_name : He.DefD := ⟨("is_name", none), "is_name", "is_name", defArgs s_is_name, defBody s_is_name, defScope s_is_name, [], []⟩
def d_two_figures : He.DefD := ⟨("two_figures", none), "two_figures", "two_figures", defArgs s_two_figures, defBody s_two_figures, defScope s_two_figures, [], []⟩
def d_need_name : He.DefD := ⟨("need_name", none), "need_name", "need_name", defArgs s_need_name, defBody s_need_name, defScope s_need_name, [], []⟩
def d_need_number : He.DefD := ⟨("need_number", none), "need_number", "need_number", defArgs s_need_number, defBody s_need_number, defScope s_need_number, [], []⟩
def d_Sort_init : He.DefD := ⟨("Sort", some "__init__"), "__init__", "Sort.__init__", defArgs s_Sort_init, defBody s_Sort_init, defScope s_Sort_init, [.int (2), .int (0)], []⟩
def d_Sort_eq : He.DefD := ⟨("Sort", some "__eq__"), "__eq__", "Sort.__eq__", defArgs s_Sort_eq, defBody s_Sort_eq, defScope s_Sort_eq, [], []⟩
def d_Sort_str : He.DefD := ⟨("Sort", some "__str__"), "__str__", "Sort.__str__", defArgs s_Sort_str, defBody s_Sort_str, defScope s_Sort_str, [], []⟩
def d_Sort_repr : He.DefD := ⟨("Sort", some "__repr__"), "__repr__", "Sort.__repr__", defArgs s_Sort_repr, defBody s_Sort_repr, defScope s_Sort_repr, [], []⟩
def d_Sort_name : He.DefD := ⟨("Sort", some "name"), "name", "Sort.name", defArgs s_Sort_name, defBody s_Sort_name, defScope s_Sort_name, [], []⟩
def d_Sort_kin : He.DefD := ⟨("Sort", some "kin"), "kin", "Sort.kin", defArgs s_Sort_kin, defBody s_Sort_kin, defScope s_Sort_kin, [], []⟩
def d_Sort_needs : He.DefD := ⟨("Sort", some "needs"), "needs", "Sort.needs", defArgs s_Sort_needs, defBody s_Sort_needs, defScope s_Sort_needs, [], []⟩
def d_Sort_keeps : He.DefD := ⟨("Sort", some "keeps"), "keeps", "Sort.keeps", defArgs s_Sort_keeps, defBody s_Sort_keeps, defScope s_Sort_keeps, [], []⟩
def d_Sort_bears : He.DefD := ⟨("Sort", some "bears"), "bears", "Sort.bears", defArgs s_Sort_bears, defBody s_Sort_bears, defScope s_Sort_bears, [], []⟩
def d_Sort_told : He.DefD := ⟨("Sort", some "told"), "told", "Sort.told", defArgs s_Sort_told, defBody s_Sort_told, defScope s_Sort_told, [], []⟩
def d_Sort_changed : He.DefD := ⟨("Sort", some "changed"), "changed", "Sort.changed", defArgs s_Sort_changed, defBody s_Sort_changed, defScope s_Sort_changed, [.non, .non, .non], []⟩
def d_Row_init : He.DefD := ⟨("Row", some "__init__"), "__init__", "Row.__init__", defArgs s_Row_init, defBody s_Row_init, defScope s_Row_init, [.int (1)], []⟩
def d_Row_eq : He.DefD := ⟨("Row", some "__eq__"), "__eq__", "Row.__eq__", defArgs s_Row_eq, defBody s_Row_eq, defScope s_Row_eq, [], []⟩
def d_Row_str : He.DefD := ⟨("Row", some "__str__"), "__str__", "Row.__str__", defArgs s_Row_str, defBody s_Row_str, defScope s_Row_str, [], []⟩
def d_Row_repr : He.DefD := ⟨("Row", some "__repr__"), "__repr__", "Row.__repr__", defArgs s_Row_repr, defBody s_Row_repr, defScope s_Row_repr, [], []⟩
def d_Row_of_sort : He.DefD := ⟨("Row", some "of_sort"), "of_sort", "Row.of_sort", defArgs s_Row_of_sort, defBody s_Row_of_sort, defScope s_Row_of_sort, [], []⟩
def d_Row_week : He.DefD := ⟨("Row", some "week"), "week", "Row.week", defArgs s_Row_week, defBody s_Row_week, defScope s_Row_week, [], []⟩
def d_Row_heads : He.DefD := ⟨("Row", some "heads"), "heads", "Row.heads", defArgs s_Row_heads, defBody s_Row_heads, defScope s_Row_heads, [], []⟩
def d_Row_told : He.DefD := ⟨("Row", some "told"), "told", "Row.told", defArgs s_Row_told, defBody s_Row_told, defScope s_Row_told, [], []⟩
def d_Row_later : He.DefD := ⟨("Row", some "later"), "later", "Row.later", defArgs s_Row_later, defBody s_Row_later, defScope s_Row_later, [], []⟩
def d_is_warmth : He.DefD := ⟨("is_warmth", none), "is_warmth", "is_warmth", defArgs s_is_warmth, defBody s_is_warmth, defScope s_is_warmth, [], []⟩
def d_is_cold : He.DefD := ⟨("is_cold", none), "is_cold", "is_cold", defArgs s_is_cold, defBody s_is_cold, defScope s_is_cold, [], []⟩
def d_is_pair : He.DefD := ⟨("is_pair", none), "is_pair", "is_pair", defArgs s_is_pair, defBody s_is_pair, defScope s_is_pair, [], []⟩
def d_Year_init : He.DefD := ⟨("Year", some "__init__"), "__init__", "Year.__init__", defArgs s_Year_init, defBody s_Year_init, defScope s_Year_init, [], []⟩
def d_Year_len : He.DefD := ⟨("Year", some "__len__"), "__len__", "Year.__len__", defArgs s_Year_len, defBody s_Year_len, defScope s_Year_len, [], []⟩
def d_Year_eq : He.DefD := ⟨("Year", some "__eq__"), "__eq__", "Year.__eq__", defArgs s_Year_eq, defBody s_Year_eq, defScope s_Year_eq, [], []⟩
def d_Year_need_week : He.DefD := ⟨("Year", some "need_week"), "need_week", "Year.need_week", defArgs s_Year_need_week, defBody s_Year_need_week, defScope s_Year_need_week, [], []⟩
def d_Year_pair : He.DefD := ⟨("Year", some "pair"), "pair", "Year.pair", defArgs s_Year_pair, defBody s_Year_pair, defScope s_Year_pair, [], []⟩
def d_Year_tell : He.DefD := ⟨("Year", some "tell"), "tell", "Year.tell", defArgs s_Year_tell, defBody s_Year_tell, defScope s_Year_tell, [.non], []⟩
def d_Year_back : He.DefD := ⟨("Year", some "back"), "back", "Year.back", defArgs s_Year_back, defBody s_Year_back, defScope s_Year_back, [], []⟩
def d_Year_warmth : He.DefD := ⟨("Year", some "warmth"), "warmth", "Year.warmth", defArgs s_Year_warmth, defBody s_Year_warmth, defScope s_Year_warmth, [], []⟩
def d_Year_cold : He.DefD := ⟨("Year", some "cold"), "cold", "Year.cold", defArgs s_Year_cold, defBody s_Year_cold, defScope s_Year_cold, [], []⟩
def d_Year_warm_sum : He.DefD := ⟨("Year", some "warm_sum"), "warm_sum", "Year.warm_sum", defArgs s_Year_warm_sum, defBody s_Year_warm_sum, defScope s_Year_warm_sum, [], []⟩
def d_Year_coldest : He.DefD := ⟨("Year", some "coldest"), "coldest", "Year.coldest", defArgs s_Year_coldest, defBody s_Year_coldest, defScope s_Year_coldest, [], []⟩
def d_Year_told : He.DefD := ⟨("Year", some "told"), "told", "Year.told", defArgs s_Year_told, defBody s_Year_told, defScope s_Year_told, [], []⟩
def d_Year_weeks : He.DefD := ⟨("Year", some "weeks"), "weeks", "Year.weeks", defArgs s_Year_weeks, defBody s_Year_weeks, defScope s_Year_weeks, [], []⟩
def d_Year_copied : He.DefD := ⟨("Year", some "copied"), "copied", "Year.copied", defArgs s_Year_copied, defBody s_Year_copied, defScope s_Year_copied, [], []⟩
def d_need_row : He.DefD := ⟨("need_row", none), "need_row", "need_row", defArgs s_need_row, defBody s_need_row, defScope s_need_row, [], []⟩
def d_need_rows : He.DefD := ⟨("need_rows", none), "need_rows", "need_rows", defArgs s_need_rows, defBody s_need_rows, defScope s_need_rows, [], []⟩
def d_need_year : He.DefD := ⟨("need_year", none), "need_year", "need_year", defArgs s_need_year, defBody s_need_year, defScope s_need_year, [], []⟩
def d_ripe_in : He.DefD := ⟨("ripe_in", none), "ripe_in", "ripe_in", defArgs s_ripe_in, defBody s_ripe_in, defScope s_ripe_in, [], []⟩
def d_last_in : He.DefD := ⟨("last_in", none), "last_in", "last_in", defArgs s_last_in, defBody s_last_in, defScope s_last_in, [], []⟩
def d_lost_in : He.DefD := ⟨("lost_in", none), "lost_in", "lost_in", defArgs s_lost_in, defBody s_lost_in, defScope s_lost_in, [], []⟩
def d_ready_in : He.DefD := ⟨("ready_in", none), "ready_in", "ready_in", defArgs s_ready_in, defBody s_ready_in, defScope s_ready_in, [], []⟩
def d_ripe_week : He.DefD := ⟨("ripe_week", none), "ripe_week", "ripe_week", defArgs s_ripe_week, defBody s_ripe_week, defScope s_ripe_week, [], []⟩
def d_last_stand : He.DefD := ⟨("last_stand", none), "last_stand", "last_stand", defArgs s_last_stand, defBody s_last_stand, defScope s_last_stand, [], []⟩
def d_lost_week : He.DefD := ⟨("lost_week", none), "lost_week", "lost_week", defArgs s_lost_week, defBody s_lost_week, defScope s_lost_week, [], []⟩
def d_ready : He.DefD := ⟨("ready", none), "ready", "ready", defArgs s_ready, defBody s_ready, defScope s_ready, [], []⟩
def d_state : He.DefD := ⟨("state", none), "state", "state", defArgs s_state, defBody s_state, defScope s_state, [], []⟩
def d_week_heads : He.DefD := ⟨("week_heads", none), "week_heads", "week_heads", defArgs s_week_heads, defBody s_week_heads, defScope s_week_heads, [], []⟩
def d_moved : He.DefD := ⟨("moved", none), "moved", "moved", defArgs s_moved, defBody s_moved, defScope s_moved, [.non], []⟩
def d_are_rests : He.DefD := ⟨("are_rests", none), "are_rests", "are_rests", defArgs s_are_rests, defBody s_are_rests, defScope s_are_rests, [], []⟩
def d_need_rests : He.DefD := ⟨("need_rests", none), "need_rests", "need_rests", defArgs s_need_rests, defBody s_need_rests, defScope s_need_rests, [], []⟩
def d_may_follow : He.DefD := ⟨("may_follow", none), "may_follow", "may_follow", defArgs s_may_follow, defBody s_may_follow, defScope s_may_follow, [], []⟩
def d_Stay_init : He.DefD := ⟨("Stay", some "__init__"), "__init__", "Stay.__init__", defArgs s_Stay_init, defBody s_Stay_init, defScope s_Stay_init, [], []⟩
def d_Stay_eq : He.DefD := ⟨("Stay", some "__eq__"), "__eq__", "Stay.__eq__", defArgs s_Stay_eq, defBody s_Stay_eq, defScope s_Stay_eq, [], []⟩
def d_Stay_str : He.DefD := ⟨("Stay", some "__str__"), "__str__", "Stay.__str__", defArgs s_Stay_str, defBody s_Stay_str, defScope s_Stay_str, [], []⟩
def d_Stay_repr : He.DefD := ⟨("Stay", some "__repr__"), "__repr__", "Stay.__repr__", defArgs s_Stay_repr, defBody s_Stay_repr, defScope s_Stay_repr, [], []⟩
def d_Stay_row : He.DefD := ⟨("Stay", some "row"), "row", "Stay.row", defArgs s_Stay_row, defBody s_Stay_row, defScope s_Stay_row, [], []⟩
def d_Stay_first : He.DefD := ⟨("Stay", some "first"), "first", "Stay.first", defArgs s_Stay_first, defBody s_Stay_first, defScope s_Stay_first, [], []⟩
def d_Stay_last : He.DefD := ⟨("Stay", some "last"), "last", "Stay.last", defArgs s_Stay_last, defBody s_Stay_last, defScope s_Stay_last, [], []⟩
def d_Stay_kin : He.DefD := ⟨("Stay", some "kin"), "kin", "Stay.kin", defArgs s_Stay_kin, defBody s_Stay_kin, defScope s_Stay_kin, [], []⟩
def d_Stay_told : He.DefD := ⟨("Stay", some "told"), "told", "Stay.told", defArgs s_Stay_told, defBody s_Stay_told, defScope s_Stay_told, [], []⟩
def d_Stay_behind : He.DefD := ⟨("Stay", some "behind"), "behind", "Stay.behind", defArgs s_Stay_behind, defBody s_Stay_behind, defScope s_Stay_behind, [.non], []⟩
def d_l_cell : He.DefD := ⟨("_law_cell", none), "_law_cell", "_law_cell", defArgs s_l_cell, defBody s_l_cell, defScope s_l_cell, [], []⟩
def d_l_box : He.DefD := ⟨("_law_box", none), "_law_box", "_law_box", defArgs s_l_box, defBody s_l_box, defScope s_l_box, [], []⟩
def d_l_take : He.DefD := ⟨("_law_take", none), "_law_take", "_law_take", defArgs s_l_take, defBody s_l_take, defScope s_l_take, [], []⟩
def d_l_names : He.DefD := ⟨("_law_names", none), "_law_names", "_law_names", defArgs s_l_names, defBody s_l_names, defScope s_l_names, [], []⟩
def d_l_weeks : He.DefD := ⟨("_law_weeks", none), "_law_weeks", "_law_weeks", defArgs s_l_weeks, defBody s_l_weeks, defScope s_l_weeks, [], []⟩
def d_l_ripe : He.DefD := ⟨("_law_ripe", none), "_law_ripe", "_law_ripe", defArgs s_l_ripe, defBody s_l_ripe, defScope s_l_ripe, [], []⟩
def d_l_last : He.DefD := ⟨("_law_last", none), "_law_last", "_law_last", defArgs s_l_last, defBody s_l_last, defScope s_l_last, [], []⟩
def d_l_lost : He.DefD := ⟨("_law_lost", none), "_law_lost", "_law_lost", defArgs s_l_lost, defBody s_l_lost, defScope s_l_lost, [], []⟩
def d_l_cut : He.DefD := ⟨("_law_cut", none), "_law_cut", "_law_cut", defArgs s_l_cut, defBody s_l_cut, defScope s_l_cut, [], []⟩
def d_l_numbers : He.DefD := ⟨("_law_numbers", none), "_law_numbers", "_law_numbers", defArgs s_l_numbers, defBody s_l_numbers, defScope s_l_numbers, [], []⟩
def d_l_scene : He.DefD := ⟨("_law_scene", none), "_law_scene", "_law_scene", defArgs s_l_scene, defBody s_l_scene, defScope s_l_scene, [], []⟩
def d_l_rows : He.DefD := ⟨("_law_rows", none), "_law_rows", "_law_rows", defArgs s_l_rows, defBody s_l_rows, defScope s_l_rows, [], []⟩
def d_l_later : He.DefD := ⟨("_law_later", none), "_law_later", "_law_later", defArgs s_l_later, defBody s_l_later, defScope s_l_later, [], []⟩
def d_l_told : He.DefD := ⟨("_law_told", none), "_law_told", "_law_told", defArgs s_l_told, defBody s_l_told, defScope s_l_told, [], []⟩
def d_l_own : He.DefD := ⟨("_law_own", none), "_law_own", "_law_own", defArgs s_l_own, defBody s_l_own, defScope s_l_own, [], []⟩
def d_l_states : He.DefD := ⟨("_law_states", none), "_law_states", "_law_states", defArgs s_l_states, defBody s_l_states, defScope s_l_states, [], []⟩
def d_l_stays_right : He.DefD := ⟨("_law_stays_right", none), "_law_stays_right", "_law_stays_right", defArgs s_l_stays_right, defBody s_l_stays_right, defScope s_l_stays_right, [], []⟩
def d_l_right : He.DefD := ⟨("_law_right", none), "_law_right", "_law_right", defArgs s_l_right, defBody s_l_right, defScope s_l_right, [], []⟩
def d_law : He.DefD := ⟨("law", none), "law", "law", defArgs s_law, defBody s_law, defScope s_law, [], []⟩
def fn : List He.DefD := [d__wall, d_NoName_init, d_NoNumber_init, d_NoSort_init, d_NoYear_init, d_NoWeek_init, d_NoRow_init, d_NoStay_init, d_NoRests_init, d_NoList_init, d_is_whole, d_is_name, d_two_figures, d_need_name, d_need_number, d_Sort_init, d_Sort_eq, d_Sort_str, d_Sort_repr, d_Sort_name, d_Sort_kin, d_Sort_needs, d_Sort_keeps, d_Sort_bears, d_Sort_told, d_Sort_changed, d_Row_init, d_Row_eq, d_Row_str, d_Row_repr, d_Row_of_sort, d_Row_week, d_Row_heads, d_Row_told, d_Row_later, d_is_warmth, d_is_cold, d_is_pair, d_Year_init, d_Year_len, d_Year_eq, d_Year_need_week, d_Year_pair, d_Year_tell, d_Year_back, d_Year_warmth, d_Year_cold, d_Year_warm_sum, d_Year_coldest, d_Year_told, d_Year_weeks, d_Year_copied, d_need_row, d_need_rows, d_need_year, d_ripe_in, d_last_in, d_lost_in, d_ready_in, d_ripe_week, d_last_stand, d_lost_week, d_ready, d_state, d_week_heads, d_moved, d_are_rests, d_need_rests, d_may_follow, d_Stay_init, d_Stay_eq, d_Stay_str, d_Stay_repr, d_Stay_row, d_Stay_first, d_Stay_last, d_Stay_kin, d_Stay_told, d_Stay_behind, d_l_cell, d_l_box, d_l_take, d_l_names, d_l_weeks, d_l_ripe, d_l_last, d_l_lost, d_l_cut, d_l_numbers, d_l_scene, d_l_rows, d_l_later, d_l_told, d_l_own, d_l_states, d_l_stays_right, d_l_right, d_law]
def cs : List Str := ["WeekError", "NoName", "NoNumber", "NoSort", "NoYear", "NoWeek", "NoRow", "NoStay", "NoRests", "NoList", "Sort", "Row", "Year", "Stay"]
def fx0 : List WA.Fx := [fun K => (He.Fa.glo "_wall").ok K, fun K => (He.Fa.glo "is_whole").ok K, fun K => (He.Fa.glo "is_name").ok K, fun K => (He.Fa.glo "two_figures").ok K, fun K => (He.Fa.glo "need_name").ok K, fun K => (He.Fa.glo "need_number").ok K, fun K => (He.Fa.glo "is_warmth").ok K, fun K => (He.Fa.glo "is_cold").ok K, fun K => (He.Fa.glo "is_pair").ok K, fun K => (He.Fa.glo "need_row").ok K, fun K => (He.Fa.glo "need_rows").ok K, fun K => (He.Fa.glo "need_year").ok K, fun K => (He.Fa.glo "ripe_in").ok K, fun K => (He.Fa.glo "last_in").ok K, fun K => (He.Fa.glo "lost_in").ok K, fun K => (He.Fa.glo "ready_in").ok K, fun K => (He.Fa.glo "ripe_week").ok K, fun K => (He.Fa.glo "last_stand").ok K, fun K => (He.Fa.glo "lost_week").ok K, fun K => (He.Fa.glo "ready").ok K, fun K => (He.Fa.glo "state").ok K, fun K => (He.Fa.glo "week_heads").ok K, fun K => (He.Fa.glo "moved").ok K, fun K => (He.Fa.glo "are_rests").ok K, fun K => (He.Fa.glo "need_rests").ok K, fun K => (He.Fa.glo "may_follow").ok K, fun K => (He.Fa.glo "_law_cell").ok K, fun K => (He.Fa.glo "_law_box").ok K, fun K => (He.Fa.glo "_law_take").ok K, fun K => (He.Fa.glo "_law_names").ok K, fun K => (He.Fa.glo "_law_weeks").ok K, fun K => (He.Fa.glo "_law_ripe").ok K, fun K => (He.Fa.glo "_law_last").ok K, fun K => (He.Fa.glo "_law_lost").ok K, fun K => (He.Fa.glo "_law_cut").ok K, fun K => (He.Fa.glo "_law_numbers").ok K, fun K => (He.Fa.glo "_law_scene").ok K, fun K => (He.Fa.glo "_law_rows").ok K, fun K => (He.Fa.glo "_law_later").ok K, fun K => (He.Fa.glo "_law_told").ok K]
def fx1 : List WA.Fx := [fun K => (He.Fa.glo "_law_own").ok K, fun K => (He.Fa.glo "_law_states").ok K, fun K => (He.Fa.glo "_law_stays_right").ok K, fun K => (He.Fa.glo "_law_right").ok K, fun K => (He.Fa.glo "law").ok K, fun K => (He.Fa.free "len").ok K, fun K => (He.Fa.free "isinstance").ok K, fun K => (He.Fa.free "repr").ok K, fun K => (He.Fa.free "range").ok K, fun K => (He.Fa.free "max").ok K, fun K => (He.Fa.free "min").ok K, fun K => (He.Fa.free "all").ok K, fun K => (He.Fa.free "sum").ok K, fun K => (He.Fa.free "sorted").ok K, fun K => (He.Fa.free "enumerate").ok K, fun K => (He.Fa.free "int").ok K, fun K => (He.Fa.free "str").ok K, fun K => (He.Fa.free "list").ok K, fun K => (He.Fa.free "tuple").ok K, fun K => (He.Fa.free "dict").ok K, fun K => (He.Fa.free "bool").ok K, fun K => (He.Fa.free "ValueError").ok K, fun K => (He.Fa.str "LETTERS" "abcdefghijklmnopqrstuvwxyz").ok K, fun K => (He.Fa.int "LONGEST" 8).ok K, fun K => (He.Fa.int "MOST_NEEDS" 10000).ok K, fun K => (He.Fa.int "MOST_KEEPS" 12).ok K, fun K => (He.Fa.int "COLD" 60).ok K, fun K => (He.Fa.int "LAST_WEEK_rows" 52).ok K, fun K => (He.Fa.int "MOST_HEADS" 1000).ok K, fun K => (He.Fa.int "MOST_WEEKS" 52).ok K, fun K => (He.Fa.int "MOST_WARMTH" 400).ok K, fun K => (He.Fa.int "MOST_COLD" 60).ok K, fun K => (He.Fa.int "MOST_ROWS" 40).ok K, fun K => (He.Fa.int "LAST_WEEK_stays" 52).ok K, fun K => (He.Fa.int "MOST_KINS" 12).ok K, fun K => (He.Fa.int "MOST_REST" 20).ok K, fun K => (He.Fa.glo "WeekError").ok K, Wk.sixB "WeekError", Wk.exbB "WeekError", fun K => (He.Fa.glo "NoName").ok K]
def fx2 : List WA.Fx := [Wk.sixB "NoName", Wk.exkB "NoName", fun K => (He.Fa.glo "NoNumber").ok K, Wk.sixB "NoNumber", Wk.exkB "NoNumber", fun K => (He.Fa.glo "NoSort").ok K, Wk.sixB "NoSort", Wk.exkB "NoSort", fun K => (He.Fa.glo "NoYear").ok K, Wk.sixB "NoYear", Wk.exkB "NoYear", fun K => (He.Fa.glo "NoWeek").ok K, Wk.sixB "NoWeek", Wk.exkB "NoWeek", fun K => (He.Fa.glo "NoRow").ok K, Wk.sixB "NoRow", Wk.exkB "NoRow", fun K => (He.Fa.glo "NoStay").ok K, Wk.sixB "NoStay", Wk.exkB "NoStay", fun K => (He.Fa.glo "NoRests").ok K, Wk.sixB "NoRests", Wk.exkB "NoRests", fun K => (He.Fa.glo "NoList").ok K, Wk.sixB "NoList", Wk.exkB "NoList", fun K => (He.Fa.glo "Sort").ok K, Wk.sixB "Sort", fun K => (He.Fa.glo "Row").ok K, Wk.sixB "Row", fun K => (He.Fa.glo "Year").ok K, Wk.sixB "Year", fun K => (He.Fa.glo "Stay").ok K, Wk.sixB "Stay", fun K => (He.Fa.cls "Sort").ok K, fun K => (He.Fa.mkr "Sort").ok K, Wk.insB "Sort", Wk.pcB "Sort" ["called", "belongs", "warmth_needed", "weeks_kept", "cold_borne"], fun K => (He.Fa.meth "Sort" "__eq__").ok K, fun K => (He.Fa.meth "Sort" "__str__").ok K]
def fx3 : List WA.Fx := [fun K => (He.Fa.meth "Sort" "__repr__").ok K, fun K => (He.Fa.meth "Sort" "name").ok K, fun K => (He.Fa.meth "Sort" "kin").ok K, fun K => (He.Fa.meth "Sort" "needs").ok K, fun K => (He.Fa.meth "Sort" "keeps").ok K, fun K => (He.Fa.meth "Sort" "bears").ok K, fun K => (He.Fa.meth "Sort" "told").ok K, fun K => (He.Fa.meth "Sort" "changed").ok K, Wk.neB "Sort", Wk.nfB "Sort", Wk.sbB "Sort", Wk.nfC "Sort" "Sort", Wk.nfC "Sort" "Row", Wk.nfC "Sort" "Year", Wk.nfC "Sort" "Stay", fun K => (He.Fa.cls "Row").ok K, fun K => (He.Fa.mkr "Row").ok K, Wk.insB "Row", Wk.pcB "Row" ["kept_sort", "kept_week", "kept_heads"], fun K => (He.Fa.meth "Row" "__eq__").ok K, fun K => (He.Fa.meth "Row" "__str__").ok K, fun K => (He.Fa.meth "Row" "__repr__").ok K, fun K => (He.Fa.meth "Row" "of_sort").ok K, fun K => (He.Fa.meth "Row" "week").ok K, fun K => (He.Fa.meth "Row" "heads").ok K, fun K => (He.Fa.meth "Row" "told").ok K, fun K => (He.Fa.meth "Row" "later").ok K, Wk.neB "Row", Wk.nfB "Row", Wk.sbB "Row", Wk.nfC "Row" "Sort", Wk.nfC "Row" "Row", Wk.nfC "Row" "Year", Wk.nfC "Row" "Stay", fun K => (He.Fa.cls "Year").ok K, fun K => (He.Fa.mkr "Year").ok K, Wk.insB "Year", Wk.pcB "Year" ["kept_normal", "kept_told"], fun K => (He.Fa.meth "Year" "__len__").ok K, fun K => (He.Fa.meth "Year" "__eq__").ok K]
def fx4 : List WA.Fx := [fun K => (He.Fa.meth "Year" "need_week").ok K, fun K => (He.Fa.meth "Year" "pair").ok K, fun K => (He.Fa.meth "Year" "tell").ok K, fun K => (He.Fa.meth "Year" "back").ok K, fun K => (He.Fa.meth "Year" "warmth").ok K, fun K => (He.Fa.meth "Year" "cold").ok K, fun K => (He.Fa.meth "Year" "warm_sum").ok K, fun K => (He.Fa.meth "Year" "coldest").ok K, fun K => (He.Fa.meth "Year" "told").ok K, fun K => (He.Fa.meth "Year" "weeks").ok K, fun K => (He.Fa.meth "Year" "copied").ok K, Wk.neB "Year", Wk.nfB "Year", Wk.sbB "Year", Wk.nfC "Year" "Sort", Wk.nfC "Year" "Row", Wk.nfC "Year" "Year", Wk.nfC "Year" "Stay", fun K => (He.Fa.cls "Stay").ok K, fun K => (He.Fa.mkr "Stay").ok K, Wk.insB "Stay", Wk.pcB "Stay" ["bedded", "until"], fun K => (He.Fa.meth "Stay" "__eq__").ok K, fun K => (He.Fa.meth "Stay" "__str__").ok K, fun K => (He.Fa.meth "Stay" "__repr__").ok K, fun K => (He.Fa.meth "Stay" "row").ok K, fun K => (He.Fa.meth "Stay" "first").ok K, fun K => (He.Fa.meth "Stay" "last").ok K, fun K => (He.Fa.meth "Stay" "kin").ok K, fun K => (He.Fa.meth "Stay" "told").ok K, fun K => (He.Fa.meth "Stay" "behind").ok K, Wk.neB "Stay", Wk.nfB "Stay", Wk.sbB "Stay", Wk.nfC "Stay" "Sort", Wk.nfC "Stay" "Row", Wk.nfC "Stay" "Year", Wk.nfC "Stay" "Stay", Wk.kbB "Row", Wk.kiB "WeekError" "Row" false]
def fx5 : List WA.Fx := [Wk.kiB "NoName" "Row" false, Wk.kiB "NoNumber" "Row" false, Wk.kiB "NoSort" "Row" false, Wk.kiB "NoYear" "Row" false, Wk.kiB "NoWeek" "Row" false, Wk.kiB "NoRow" "Row" false, Wk.kiB "NoStay" "Row" false, Wk.kiB "NoRests" "Row" false, Wk.kiB "NoList" "Row" false, Wk.kiB "Sort" "Row" false, Wk.kiB "Row" "Row" true, Wk.kiB "Year" "Row" false, Wk.kiB "Stay" "Row" false, Wk.kbB "Year", Wk.kiB "WeekError" "Year" false, Wk.kiB "NoName" "Year" false, Wk.kiB "NoNumber" "Year" false, Wk.kiB "NoSort" "Year" false, Wk.kiB "NoYear" "Year" false, Wk.kiB "NoWeek" "Year" false, Wk.kiB "NoRow" "Year" false, Wk.kiB "NoStay" "Year" false, Wk.kiB "NoRests" "Year" false, Wk.kiB "NoList" "Year" false, Wk.kiB "Sort" "Year" false, Wk.kiB "Row" "Year" false, Wk.kiB "Year" "Year" true, Wk.kiB "Stay" "Year" false, Wk.kbB "Sort", Wk.kiB "WeekError" "Sort" false, Wk.kiB "NoName" "Sort" false, Wk.kiB "NoNumber" "Sort" false, Wk.kiB "NoSort" "Sort" false, Wk.kiB "NoYear" "Sort" false, Wk.kiB "NoWeek" "Sort" false, Wk.kiB "NoRow" "Sort" false, Wk.kiB "NoStay" "Sort" false, Wk.kiB "NoRests" "Sort" false, Wk.kiB "NoList" "Sort" false, Wk.kiB "Sort" "Sort" true]
def fx6 : List WA.Fx := [Wk.kiB "Row" "Sort" false, Wk.kiB "Year" "Sort" false, Wk.kiB "Stay" "Sort" false, Wk.kbB "Stay", Wk.kiB "WeekError" "Stay" false, Wk.kiB "NoName" "Stay" false, Wk.kiB "NoNumber" "Stay" false, Wk.kiB "NoSort" "Stay" false, Wk.kiB "NoYear" "Stay" false, Wk.kiB "NoWeek" "Stay" false, Wk.kiB "NoRow" "Stay" false, Wk.kiB "NoStay" "Stay" false, Wk.kiB "NoRests" "Stay" false, Wk.kiB "NoList" "Stay" false, Wk.kiB "Sort" "Stay" false, Wk.kiB "Row" "Stay" false, Wk.kiB "Year" "Stay" false, Wk.kiB "Stay" "Stay" true, Wk.noList, fun K => (K.lookup sysModules).isSome]
def fx : List WA.Fx := fx0 ++ fx1 ++ fx2 ++ fx3 ++ fx4 ++ fx5 ++ fx6
abbrev a_NoName_init (K : PySem.W.Frag) : Addr := He.fAd K ("NoName", some "__init__")
abbrev a_NoNumber_init (K : PySem.W.Frag) : Addr := He.fAd K ("NoNumber", some "__init__")
abbrev a_NoSort_init (K : PySem.W.Frag) : Addr := He.fAd K ("NoSort", some "__init__")
abbrev a_NoYear_init (K : PySem.W.Frag) : Addr := He.fAd K ("NoYear", some "__init__")
abbrev a_NoWeek_init (K : PySem.W.Frag) : Addr := He.fAd K ("NoWeek", some "__init__")
abbrev a_NoRow_init (K : PySem.W.Frag) : Addr := He.fAd K ("NoRow", some "__init__")
abbrev a_NoStay_init (K : PySem.W.Frag) : Addr := He.fAd K ("NoStay", some "__init__")
abbrev a_NoRests_init (K : PySem.W.Frag) : Addr := He.fAd K ("NoRests", some "__init__")
abbrev a_NoList_init (K : PySem.W.Frag) : Addr := He.fAd K ("NoList", some "__init__")
abbrev a_is_whole (K : PySem.W.Frag) : Addr := He.fAd K ("is_whole", none)
abbrev a_is_name (K : PySem.W.Frag) : Addr := He.fAd K ("is_name", none)
abbrev a_need_name (K : PySem.W.Frag) : Addr := He.fAd K ("need_name", none)
abbrev a_need_number (K : PySem.W.Frag) : Addr := He.fAd K ("need_number", none)
abbrev a_Sort_init (K : PySem.W.Frag) : Addr := He.fAd K ("Sort", some "__init__")
abbrev a_Sort_kin (K : PySem.W.Frag) : Addr := He.fAd K ("Sort", some "kin")
abbrev a_Sort_needs (K : PySem.W.Frag) : Addr := He.fAd K ("Sort", some "needs")
abbrev a_Sort_keeps (K : PySem.W.Frag) : Addr := He.fAd K ("Sort", some "keeps")
abbrev a_Sort_bears (K : PySem.W.Frag) : Addr := He.fAd K ("Sort", some "bears")
abbrev a_Row_init (K : PySem.W.Frag) : Addr := He.fAd K ("Row", some "__init__")
abbrev a_Row_of_sort (K : PySem.W.Frag) : Addr := He.fAd K ("Row", some "of_sort")
abbrev a_Row_week (K : PySem.W.Frag) : Addr := He.fAd K ("Row", some "week")
abbrev a_Row_heads (K : PySem.W.Frag) : Addr := He.fAd K ("Row", some "heads")
abbrev a_Row_later (K : PySem.W.Frag) : Addr := He.fAd K ("Row", some "later")
abbrev a_is_warmth (K : PySem.W.Frag) : Addr := He.fAd K ("is_warmth", none)
abbrev a_is_cold (K : PySem.W.Frag) : Addr := He.fAd K ("is_cold", none)
abbrev a_is_pair (K : PySem.W.Frag) : Addr := He.fAd K ("is_pair", none)
abbrev a_Year_init (K : PySem.W.Frag) : Addr := He.fAd K ("Year", some "__init__")
abbrev a_Year_len (K : PySem.W.Frag) : Addr := He.fAd K ("Year", some "__len__")
abbrev a_Year_need_week (K : PySem.W.Frag) : Addr := He.fAd K ("Year", some "need_week")
abbrev a_Year_pair (K : PySem.W.Frag) : Addr := He.fAd K ("Year", some "pair")
abbrev a_Year_tell (K : PySem.W.Frag) : Addr := He.fAd K ("Year", some "tell")
abbrev a_Year_warmth (K : PySem.W.Frag) : Addr := He.fAd K ("Year", some "warmth")
abbrev a_Year_cold (K : PySem.W.Frag) : Addr := He.fAd K ("Year", some "cold")
abbrev a_Year_copied (K : PySem.W.Frag) : Addr := He.fAd K ("Year", some "copied")
abbrev a_need_row (K : PySem.W.Frag) : Addr := He.fAd K ("need_row", none)
abbrev a_need_rows (K : PySem.W.Frag) : Addr := He.fAd K ("need_rows", none)
abbrev a_need_year (K : PySem.W.Frag) : Addr := He.fAd K ("need_year", none)
abbrev a_ripe_in (K : PySem.W.Frag) : Addr := He.fAd K ("ripe_in", none)
abbrev a_last_in (K : PySem.W.Frag) : Addr := He.fAd K ("last_in", none)
abbrev a_lost_in (K : PySem.W.Frag) : Addr := He.fAd K ("lost_in", none)
abbrev a_ready_in (K : PySem.W.Frag) : Addr := He.fAd K ("ready_in", none)
abbrev a_ripe_week (K : PySem.W.Frag) : Addr := He.fAd K ("ripe_week", none)
abbrev a_last_stand (K : PySem.W.Frag) : Addr := He.fAd K ("last_stand", none)
abbrev a_lost_week (K : PySem.W.Frag) : Addr := He.fAd K ("lost_week", none)
abbrev a_ready (K : PySem.W.Frag) : Addr := He.fAd K ("ready", none)
abbrev a_state (K : PySem.W.Frag) : Addr := He.fAd K ("state", none)
abbrev a_week_heads (K : PySem.W.Frag) : Addr := He.fAd K ("week_heads", none)
abbrev a_moved (K : PySem.W.Frag) : Addr := He.fAd K ("moved", none)
abbrev a_are_rests (K : PySem.W.Frag) : Addr := He.fAd K ("are_rests", none)
abbrev a_need_rests (K : PySem.W.Frag) : Addr := He.fAd K ("need_rests", none)
abbrev a_may_follow (K : PySem.W.Frag) : Addr := He.fAd K ("may_follow", none)
abbrev a_Stay_init (K : PySem.W.Frag) : Addr := He.fAd K ("Stay", some "__init__")
abbrev a_Stay_first (K : PySem.W.Frag) : Addr := He.fAd K ("Stay", some "first")
abbrev a_Stay_last (K : PySem.W.Frag) : Addr := He.fAd K ("Stay", some "last")
abbrev a_Stay_kin (K : PySem.W.Frag) : Addr := He.fAd K ("Stay", some "kin")
abbrev a_Stay_behind (K : PySem.W.Frag) : Addr := He.fAd K ("Stay", some "behind")
abbrev a_l_cell (K : PySem.W.Frag) : Addr := He.fAd K ("_law_cell", none)
abbrev a_l_box (K : PySem.W.Frag) : Addr := He.fAd K ("_law_box", none)
abbrev a_l_take (K : PySem.W.Frag) : Addr := He.fAd K ("_law_take", none)
abbrev a_l_names (K : PySem.W.Frag) : Addr := He.fAd K ("_law_names", none)
abbrev a_l_weeks (K : PySem.W.Frag) : Addr := He.fAd K ("_law_weeks", none)
abbrev a_l_ripe (K : PySem.W.Frag) : Addr := He.fAd K ("_law_ripe", none)
abbrev a_l_last (K : PySem.W.Frag) : Addr := He.fAd K ("_law_last", none)
abbrev a_l_lost (K : PySem.W.Frag) : Addr := He.fAd K ("_law_lost", none)
abbrev a_l_cut (K : PySem.W.Frag) : Addr := He.fAd K ("_law_cut", none)
abbrev a_l_numbers (K : PySem.W.Frag) : Addr := He.fAd K ("_law_numbers", none)
abbrev a_l_scene (K : PySem.W.Frag) : Addr := He.fAd K ("_law_scene", none)
abbrev a_l_rows (K : PySem.W.Frag) : Addr := He.fAd K ("_law_rows", none)
abbrev a_l_later (K : PySem.W.Frag) : Addr := He.fAd K ("_law_later", none)
abbrev a_l_told (K : PySem.W.Frag) : Addr := He.fAd K ("_law_told", none)
abbrev a_l_own (K : PySem.W.Frag) : Addr := He.fAd K ("_law_own", none)
abbrev a_l_states (K : PySem.W.Frag) : Addr := He.fAd K ("_law_states", none)
abbrev a_l_stays_right (K : PySem.W.Frag) : Addr := He.fAd K ("_law_stays_right", none)
abbrev a_l_right (K : PySem.W.Frag) : Addr := He.fAd K ("_law_right", none)
abbrev a_law (K : PySem.W.Frag) : Addr := He.fAd K ("law", none)
structure Tx (K : PySem.W.Frag) (mg : Str → Option Value) : Prop where
  c : WA.SaysX fx fn K
  h : ∃ h : Heap, K.In h ∧ h.Ns mainGlobals mg
section
variable {K : PySem.W.Frag} {mg : Str → Option Value}
theorem Tx.glo (T : Tx K mg) {x : Str} (i : Nat) (h : fx[i]? = some (fun K => (He.Fa.glo x).ok K) := by rfl) : mg x = some (.ref (He.ga K x)) := let ⟨_, X, G⟩ := T.h; He.glo_ok X G (T.c.fact i h)
theorem Tx.free (T : Tx K mg) {x : Str} (i : Nat) (h : fx[i]? = some (fun K => (He.Fa.free x).ok K) := by rfl) : mg x = none := let ⟨_, X, G⟩ := T.h; He.free_ok X G (T.c.fact i h)
theorem Tx.int (T : Tx K mg) {x : Str} {z : Int} (i : Nat) (h : fx[i]? = some (fun K => (He.Fa.int x z).ok K) := by rfl) : ∃ t, mg x = some (.int z t) := let ⟨_, X, G⟩ := T.h; He.int_ok X G (T.c.fact i h)
theorem Tx.str (T : Tx K mg) {x z : Str} (i : Nat) (h : fx[i]? = some (fun K => (He.Fa.str x z).ok K) := by rfl) : ∃ t, mg x = some (.str z t) := let ⟨_, X, G⟩ := T.h; He.str_ok X G (T.c.fact i h)
theorem Tx.g_is_whole (T : Tx K mg) : mg "is_whole" = some (.ref (a_is_whole K)) := T.glo (x := "is_whole") 1
theorem Tx.g_is_name (T : Tx K mg) : mg "is_name" = some (.ref (a_is_name K)) := T.glo (x := "is_name") 2
theorem Tx.g_need_name (T : Tx K mg) : mg "need_name" = some (.ref (a_need_name K)) := T.glo (x := "need_name") 4
theorem Tx.g_need_number (T : Tx K mg) : mg "need_number" = some (.ref (a_need_number K)) := T.glo (x := "need_number") 5
theorem Tx.g_is_warmth (T : Tx K mg) : mg "is_warmth" = some (.ref (a_is_warmth K)) := T.glo (x := "is_warmth") 6
theorem Tx.g_is_cold (T : Tx K mg) : mg "is_cold" = some (.ref (a_is_cold K)) := T.glo (x := "is_cold") 7
theorem Tx.g_is_pair (T : Tx K mg) : mg "is_pair" = some (.ref (a_is_pair K)) := T.glo (x := "is_pair") 8
theorem Tx.g_need_row (T : Tx K mg) : mg "need_row" = some (.ref (a_need_row K)) := T.glo (x := "need_row") 9
theorem Tx.g_need_rows (T : Tx K mg) : mg "need_rows" = some (.ref (a_need_rows K)) := T.glo (x := "need_rows") 10
theorem Tx.g_need_year (T : Tx K mg) : mg "need_year" = some (.ref (a_need_year K)) := T.glo (x := "need_year") 11
theorem Tx.g_ripe_in (T : Tx K mg) : mg "ripe_in" = some (.ref (a_ripe_in K)) := T.glo (x := "ripe_in") 12
theorem Tx.g_last_in (T : Tx K mg) : mg "last_in" = some (.ref (a_last_in K)) := T.glo (x := "last_in") 13
theorem Tx.g_lost_in (T : Tx K mg) : mg "lost_in" = some (.ref (a_lost_in K)) := T.glo (x := "lost_in") 14
theorem Tx.g_ready_in (T : Tx K mg) : mg "ready_in" = some (.ref (a_ready_in K)) := T.glo (x := "ready_in") 15
theorem Tx.g_ripe_week (T : Tx K mg) : mg "ripe_week" = some (.ref (a_ripe_week K)) := T.glo (x := "ripe_week") 16
theorem Tx.g_last_stand (T : Tx K mg) : mg "last_stand" = some (.ref (a_last_stand K)) := T.glo (x := "last_stand") 17
theorem Tx.g_lost_week (T : Tx K mg) : mg "lost_week" = some (.ref (a_lost_week K)) := T.glo (x := "lost_week") 18
theorem Tx.g_ready (T : Tx K mg) : mg "ready" = some (.ref (a_ready K)) := T.glo (x := "ready") 19
theorem Tx.g_state (T : Tx K mg) : mg "state" = some (.ref (a_state K)) := T.glo (x := "state") 20
theorem Tx.g_week_heads (T : Tx K mg) : mg "week_heads" = some (.ref (a_week_heads K)) := T.glo (x := "week_heads") 21
theorem Tx.g_moved (T : Tx K mg) : mg "moved" = some (.ref (a_moved K)) := T.glo (x := "moved") 22
theorem Tx.g_are_rests (T : Tx K mg) : mg "are_rests" = some (.ref (a_are_rests K)) := T.glo (x := "are_rests") 23
theorem Tx.g_need_rests (T : Tx K mg) : mg "need_rests" = some (.ref (a_need_rests K)) := T.glo (x := "need_rests") 24
theorem Tx.g_may_follow (T : Tx K mg) : mg "may_follow" = some (.ref (a_may_follow K)) := T.glo (x := "may_follow") 25
theorem Tx.g_l_cell (T : Tx K mg) : mg "_law_cell" = some (.ref (a_l_cell K)) := T.glo (x := "_law_cell") 26
theorem Tx.g_l_box (T : Tx K mg) : mg "_law_box" = some (.ref (a_l_box K)) := T.glo (x := "_law_box") 27
theorem Tx.g_l_take (T : Tx K mg) : mg "_law_take" = some (.ref (a_l_take K)) := T.glo (x := "_law_take") 28
theorem Tx.g_l_names (T : Tx K mg) : mg "_law_names" = some (.ref (a_l_names K)) := T.glo (x := "_law_names") 29
theorem Tx.g_l_weeks (T : Tx K mg) : mg "_law_weeks" = some (.ref (a_l_weeks K)) := T.glo (x := "_law_weeks") 30
theorem Tx.g_l_ripe (T : Tx K mg) : mg "_law_ripe" = some (.ref (a_l_ripe K)) := T.glo (x := "_law_ripe") 31
theorem Tx.g_l_last (T : Tx K mg) : mg "_law_last" = some (.ref (a_l_last K)) := T.glo (x := "_law_last") 32
theorem Tx.g_l_lost (T : Tx K mg) : mg "_law_lost" = some (.ref (a_l_lost K)) := T.glo (x := "_law_lost") 33
theorem Tx.g_l_cut (T : Tx K mg) : mg "_law_cut" = some (.ref (a_l_cut K)) := T.glo (x := "_law_cut") 34
theorem Tx.g_l_numbers (T : Tx K mg) : mg "_law_numbers" = some (.ref (a_l_numbers K)) := T.glo (x := "_law_numbers") 35
theorem Tx.g_l_scene (T : Tx K mg) : mg "_law_scene" = some (.ref (a_l_scene K)) := T.glo (x := "_law_scene") 36
theorem Tx.g_l_rows (T : Tx K mg) : mg "_law_rows" = some (.ref (a_l_rows K)) := T.glo (x := "_law_rows") 37
theorem Tx.g_l_later (T : Tx K mg) : mg "_law_later" = some (.ref (a_l_later K)) := T.glo (x := "_law_later") 38
theorem Tx.g_l_told (T : Tx K mg) : mg "_law_told" = some (.ref (a_l_told K)) := T.glo (x := "_law_told") 39
theorem Tx.g_l_own (T : Tx K mg) : mg "_law_own" = some (.ref (a_l_own K)) := T.glo (x := "_law_own") 40
theorem Tx.g_l_states (T : Tx K mg) : mg "_law_states" = some (.ref (a_l_states K)) := T.glo (x := "_law_states") 41
theorem Tx.g_l_stays_right (T : Tx K mg) : mg "_law_stays_right" = some (.ref (a_l_stays_right K)) := T.glo (x := "_law_stays_right") 42
theorem Tx.g_l_right (T : Tx K mg) : mg "_law_right" = some (.ref (a_l_right K)) := T.glo (x := "_law_right") 43
theorem Tx.g_law (T : Tx K mg) : mg "law" = some (.ref (a_law K)) := T.glo (x := "law") 44
theorem Tx.n_len (T : Tx K mg) : mg "len" = none := T.free (x := "len") 45
theorem Tx.n_isinstance (T : Tx K mg) : mg "isinstance" = none := T.free (x := "isinstance") 46
theorem Tx.n_repr (T : Tx K mg) : mg "repr" = none := T.free (x := "repr") 47
theorem Tx.n_range (T : Tx K mg) : mg "range" = none := T.free (x := "range") 48
theorem Tx.n_max (T : Tx K mg) : mg "max" = none := T.free (x := "max") 49
theorem Tx.n_min (T : Tx K mg) : mg "min" = none := T.free (x := "min") 50
theorem Tx.n_all (T : Tx K mg) : mg "all" = none := T.free (x := "all") 51
theorem Tx.n_sum (T : Tx K mg) : mg "sum" = none := T.free (x := "sum") 52
theorem Tx.n_enumerate (T : Tx K mg) : mg "enumerate" = none := T.free (x := "enumerate") 54
theorem Tx.n_int (T : Tx K mg) : mg "int" = none := T.free (x := "int") 55
theorem Tx.n_str (T : Tx K mg) : mg "str" = none := T.free (x := "str") 56
theorem Tx.n_list (T : Tx K mg) : mg "list" = none := T.free (x := "list") 57
theorem Tx.n_tuple (T : Tx K mg) : mg "tuple" = none := T.free (x := "tuple") 58
theorem Tx.n_dict (T : Tx K mg) : mg "dict" = none := T.free (x := "dict") 59
theorem Tx.n_bool (T : Tx K mg) : mg "bool" = none := T.free (x := "bool") 60
theorem Tx.c_LETTERS (T : Tx K mg) : ∃ t, mg "LETTERS" = some (.str "abcdefghijklmnopqrstuvwxyz" t) := T.str (x := "LETTERS") (z := "abcdefghijklmnopqrstuvwxyz") 62
theorem Tx.c_LONGEST (T : Tx K mg) : ∃ t, mg "LONGEST" = some (.int 8 t) := T.int (x := "LONGEST") (z := 8) 63
theorem Tx.c_MOST_NEEDS (T : Tx K mg) : ∃ t, mg "MOST_NEEDS" = some (.int 10000 t) := T.int (x := "MOST_NEEDS") (z := 10000) 64
theorem Tx.c_MOST_KEEPS (T : Tx K mg) : ∃ t, mg "MOST_KEEPS" = some (.int 12 t) := T.int (x := "MOST_KEEPS") (z := 12) 65
theorem Tx.c_COLD (T : Tx K mg) : ∃ t, mg "COLD" = some (.int 60 t) := T.int (x := "COLD") (z := 60) 66
theorem Tx.c_LAST_WEEK_rows (T : Tx K mg) : ∃ t, mg "LAST_WEEK_rows" = some (.int 52 t) := T.int (x := "LAST_WEEK_rows") (z := 52) 67
theorem Tx.c_MOST_HEADS (T : Tx K mg) : ∃ t, mg "MOST_HEADS" = some (.int 1000 t) := T.int (x := "MOST_HEADS") (z := 1000) 68
theorem Tx.c_MOST_WEEKS (T : Tx K mg) : ∃ t, mg "MOST_WEEKS" = some (.int 52 t) := T.int (x := "MOST_WEEKS") (z := 52) 69
theorem Tx.c_MOST_WARMTH (T : Tx K mg) : ∃ t, mg "MOST_WARMTH" = some (.int 400 t) := T.int (x := "MOST_WARMTH") (z := 400) 70
theorem Tx.c_MOST_COLD (T : Tx K mg) : ∃ t, mg "MOST_COLD" = some (.int 60 t) := T.int (x := "MOST_COLD") (z := 60) 71
theorem Tx.c_MOST_ROWS (T : Tx K mg) : ∃ t, mg "MOST_ROWS" = some (.int 40 t) := T.int (x := "MOST_ROWS") (z := 40) 72
theorem Tx.c_LAST_WEEK_stays (T : Tx K mg) : ∃ t, mg "LAST_WEEK_stays" = some (.int 52 t) := T.int (x := "LAST_WEEK_stays") (z := 52) 73
theorem Tx.c_MOST_KINS (T : Tx K mg) : ∃ t, mg "MOST_KINS" = some (.int 12 t) := T.int (x := "MOST_KINS") (z := 12) 74
theorem Tx.c_MOST_REST (T : Tx K mg) : ∃ t, mg "MOST_REST" = some (.int 20 t) := T.int (x := "MOST_REST") (z := 20) 75
theorem Tx.y_WeekError (T : Tx K mg) : ExB K mg "WeekError" (He.ga K "WeekError") := let ⟨_, X, G⟩ := T.h; exb_ok X G (T.c.fact 76 (f := fun K => (He.Fa.glo "WeekError").ok K)) (T.c.fact 78)
theorem Tx.x_NoName (T : Tx K mg) : ExK K mg "NoName" (He.ga K "NoName") (a_NoName_init K) := let ⟨_, X, G⟩ := T.h; exk_ok X G (T.c.fact 79 (f := fun K => (He.Fa.glo "NoName").ok K)) (T.c.fact 81)
theorem Tx.x_NoNumber (T : Tx K mg) : ExK K mg "NoNumber" (He.ga K "NoNumber") (a_NoNumber_init K) := let ⟨_, X, G⟩ := T.h; exk_ok X G (T.c.fact 82 (f := fun K => (He.Fa.glo "NoNumber").ok K)) (T.c.fact 84)
theorem Tx.x_NoSort (T : Tx K mg) : ExK K mg "NoSort" (He.ga K "NoSort") (a_NoSort_init K) := let ⟨_, X, G⟩ := T.h; exk_ok X G (T.c.fact 85 (f := fun K => (He.Fa.glo "NoSort").ok K)) (T.c.fact 87)
theorem Tx.x_NoYear (T : Tx K mg) : ExK K mg "NoYear" (He.ga K "NoYear") (a_NoYear_init K) := let ⟨_, X, G⟩ := T.h; exk_ok X G (T.c.fact 88 (f := fun K => (He.Fa.glo "NoYear").ok K)) (T.c.fact 90)
theorem Tx.x_NoWeek (T : Tx K mg) : ExK K mg "NoWeek" (He.ga K "NoWeek") (a_NoWeek_init K) := let ⟨_, X, G⟩ := T.h; exk_ok X G (T.c.fact 91 (f := fun K => (He.Fa.glo "NoWeek").ok K)) (T.c.fact 93)
theorem Tx.x_NoRow (T : Tx K mg) : ExK K mg "NoRow" (He.ga K "NoRow") (a_NoRow_init K) := let ⟨_, X, G⟩ := T.h; exk_ok X G (T.c.fact 94 (f := fun K => (He.Fa.glo "NoRow").ok K)) (T.c.fact 96)
theorem Tx.x_NoStay (T : Tx K mg) : ExK K mg "NoStay" (He.ga K "NoStay") (a_NoStay_init K) := let ⟨_, X, G⟩ := T.h; exk_ok X G (T.c.fact 97 (f := fun K => (He.Fa.glo "NoStay").ok K)) (T.c.fact 99)
theorem Tx.x_NoRests (T : Tx K mg) : ExK K mg "NoRests" (He.ga K "NoRests") (a_NoRests_init K) := let ⟨_, X, G⟩ := T.h; exk_ok X G (T.c.fact 100 (f := fun K => (He.Fa.glo "NoRests").ok K)) (T.c.fact 102)
theorem Tx.x_NoList (T : Tx K mg) : ExK K mg "NoList" (He.ga K "NoList") (a_NoList_init K) := let ⟨_, X, G⟩ := T.h; exk_ok X G (T.c.fact 103 (f := fun K => (He.Fa.glo "NoList").ok K)) (T.c.fact 105)
theorem Tx.g_Sort (T : Tx K mg) : mg "Sort" = some (.ref (He.ga K "Sort")) := T.glo (x := "Sort") 106
theorem Tx.g_Row (T : Tx K mg) : mg "Row" = some (.ref (He.ga K "Row")) := T.glo (x := "Row") 108
theorem Tx.g_Year (T : Tx K mg) : mg "Year" = some (.ref (He.ga K "Year")) := T.glo (x := "Year") 110
theorem Tx.g_Stay (T : Tx K mg) : mg "Stay" = some (.ref (He.ga K "Stay")) := T.glo (x := "Stay") 112
theorem Tx.cl_Sort (T : Tx K mg) : Cls K (He.ga K "Sort") := He.cls_ok (T.c.fact 114 (f := fun K => (He.Fa.cls "Sort").ok K))
theorem Tx.mk_Sort (T : Tx K mg) : Mk K (He.ga K "Sort") (a_Sort_init K) := He.mkr_ok (T.c.fact 115 (f := fun K => (He.Fa.mkr "Sort").ok K))
theorem Tx.in_Sort (T : Tx K mg) : InsC K (He.ga K "Sort") := ins_ok T.cl_Sort (T.c.fact 116)
theorem Tx.pc_Sort (T : Tx K mg) : PC K (He.ga K "Sort") ["called", "belongs", "warmth_needed", "weeks_kept", "cold_borne"] := pc_ok T.cl_Sort (T.c.fact 117)
theorem Tx.m_Sort_kin (T : Tx K mg) : Meth K (He.ga K "Sort") "kin" (a_Sort_kin K) := He.meth_ok (T.c.fact 122 (f := fun K => (He.Fa.meth "Sort" "kin").ok K))
theorem Tx.m_Sort_needs (T : Tx K mg) : Meth K (He.ga K "Sort") "needs" (a_Sort_needs K) := He.meth_ok (T.c.fact 123 (f := fun K => (He.Fa.meth "Sort" "needs").ok K))
theorem Tx.m_Sort_keeps (T : Tx K mg) : Meth K (He.ga K "Sort") "keeps" (a_Sort_keeps K) := He.meth_ok (T.c.fact 124 (f := fun K => (He.Fa.meth "Sort" "keeps").ok K))
theorem Tx.m_Sort_bears (T : Tx K mg) : Meth K (He.ga K "Sort") "bears" (a_Sort_bears K) := He.meth_ok (T.c.fact 125 (f := fun K => (He.Fa.meth "Sort" "bears").ok K))
theorem Tx.cl_Row (T : Tx K mg) : Cls K (He.ga K "Row") := He.cls_ok (T.c.fact 135 (f := fun K => (He.Fa.cls "Row").ok K))
theorem Tx.mk_Row (T : Tx K mg) : Mk K (He.ga K "Row") (a_Row_init K) := He.mkr_ok (T.c.fact 136 (f := fun K => (He.Fa.mkr "Row").ok K))
theorem Tx.in_Row (T : Tx K mg) : InsC K (He.ga K "Row") := ins_ok T.cl_Row (T.c.fact 137)
theorem Tx.pc_Row (T : Tx K mg) : PC K (He.ga K "Row") ["kept_sort", "kept_week", "kept_heads"] := pc_ok T.cl_Row (T.c.fact 138)
theorem Tx.m_Row_of_sort (T : Tx K mg) : Meth K (He.ga K "Row") "of_sort" (a_Row_of_sort K) := He.meth_ok (T.c.fact 142 (f := fun K => (He.Fa.meth "Row" "of_sort").ok K))
theorem Tx.m_Row_week (T : Tx K mg) : Meth K (He.ga K "Row") "week" (a_Row_week K) := He.meth_ok (T.c.fact 143 (f := fun K => (He.Fa.meth "Row" "week").ok K))
theorem Tx.m_Row_heads (T : Tx K mg) : Meth K (He.ga K "Row") "heads" (a_Row_heads K) := He.meth_ok (T.c.fact 144 (f := fun K => (He.Fa.meth "Row" "heads").ok K))
theorem Tx.m_Row_later (T : Tx K mg) : Meth K (He.ga K "Row") "later" (a_Row_later K) := He.meth_ok (T.c.fact 146 (f := fun K => (He.Fa.meth "Row" "later").ok K))
theorem Tx.cl_Year (T : Tx K mg) : Cls K (He.ga K "Year") := He.cls_ok (T.c.fact 154 (f := fun K => (He.Fa.cls "Year").ok K))
theorem Tx.mk_Year (T : Tx K mg) : Mk K (He.ga K "Year") (a_Year_init K) := He.mkr_ok (T.c.fact 155 (f := fun K => (He.Fa.mkr "Year").ok K))
theorem Tx.in_Year (T : Tx K mg) : InsC K (He.ga K "Year") := ins_ok T.cl_Year (T.c.fact 156)
theorem Tx.pc_Year (T : Tx K mg) : PC K (He.ga K "Year") ["kept_normal", "kept_told"] := pc_ok T.cl_Year (T.c.fact 157)
theorem Tx.m_Year_len (T : Tx K mg) : Meth K (He.ga K "Year") "__len__" (a_Year_len K) := He.meth_ok (T.c.fact 158 (f := fun K => (He.Fa.meth "Year" "__len__").ok K))
theorem Tx.m_Year_need_week (T : Tx K mg) : Meth K (He.ga K "Year") "need_week" (a_Year_need_week K) := He.meth_ok (T.c.fact 160 (f := fun K => (He.Fa.meth "Year" "need_week").ok K))
theorem Tx.m_Year_pair (T : Tx K mg) : Meth K (He.ga K "Year") "pair" (a_Year_pair K) := He.meth_ok (T.c.fact 161 (f := fun K => (He.Fa.meth "Year" "pair").ok K))
theorem Tx.m_Year_tell (T : Tx K mg) : Meth K (He.ga K "Year") "tell" (a_Year_tell K) := He.meth_ok (T.c.fact 162 (f := fun K => (He.Fa.meth "Year" "tell").ok K))
theorem Tx.m_Year_warmth (T : Tx K mg) : Meth K (He.ga K "Year") "warmth" (a_Year_warmth K) := He.meth_ok (T.c.fact 164 (f := fun K => (He.Fa.meth "Year" "warmth").ok K))
theorem Tx.m_Year_cold (T : Tx K mg) : Meth K (He.ga K "Year") "cold" (a_Year_cold K) := He.meth_ok (T.c.fact 165 (f := fun K => (He.Fa.meth "Year" "cold").ok K))
theorem Tx.m_Year_copied (T : Tx K mg) : Meth K (He.ga K "Year") "copied" (a_Year_copied K) := He.meth_ok (T.c.fact 170 (f := fun K => (He.Fa.meth "Year" "copied").ok K))
theorem Tx.cl_Stay (T : Tx K mg) : Cls K (He.ga K "Stay") := He.cls_ok (T.c.fact 178 (f := fun K => (He.Fa.cls "Stay").ok K))
theorem Tx.mk_Stay (T : Tx K mg) : Mk K (He.ga K "Stay") (a_Stay_init K) := He.mkr_ok (T.c.fact 179 (f := fun K => (He.Fa.mkr "Stay").ok K))
theorem Tx.in_Stay (T : Tx K mg) : InsC K (He.ga K "Stay") := ins_ok T.cl_Stay (T.c.fact 180)
theorem Tx.pc_Stay (T : Tx K mg) : PC K (He.ga K "Stay") ["bedded", "until"] := pc_ok T.cl_Stay (T.c.fact 181)
theorem Tx.m_Stay_first (T : Tx K mg) : Meth K (He.ga K "Stay") "first" (a_Stay_first K) := He.meth_ok (T.c.fact 186 (f := fun K => (He.Fa.meth "Stay" "first").ok K))
theorem Tx.m_Stay_last (T : Tx K mg) : Meth K (He.ga K "Stay") "last" (a_Stay_last K) := He.meth_ok (T.c.fact 187 (f := fun K => (He.Fa.meth "Stay" "last").ok K))
theorem Tx.m_Stay_kin (T : Tx K mg) : Meth K (He.ga K "Stay") "kin" (a_Stay_kin K) := He.meth_ok (T.c.fact 188 (f := fun K => (He.Fa.meth "Stay" "kin").ok K))
theorem Tx.m_Stay_behind (T : Tx K mg) : Meth K (He.ga K "Stay") "behind" (a_Stay_behind K) := He.meth_ok (T.c.fact 190 (f := fun K => (He.Fa.meth "Stay" "behind").ok K))
theorem Tx.ki_Row_Row (T : Tx K mg) : PySem.W.kitOne K (.ref (He.ga K "Row")) (.ref (He.ga K "Row")) = some true := of_decide_eq_true (T.c.fact 210 (f := Wk.kiB "Row" "Row" true))
theorem Tx.ki_Year_Year (T : Tx K mg) : PySem.W.kitOne K (.ref (He.ga K "Year")) (.ref (He.ga K "Year")) = some true := of_decide_eq_true (T.c.fact 226 (f := Wk.kiB "Year" "Year" true))
theorem Tx.ki_Sort_Sort (T : Tx K mg) : PySem.W.kitOne K (.ref (He.ga K "Sort")) (.ref (He.ga K "Sort")) = some true := of_decide_eq_true (T.c.fact 239 (f := Wk.kiB "Sort" "Sort" true))
theorem Tx.ki_Stay_Stay (T : Tx K mg) : PySem.W.kitOne K (.ref (He.ga K "Stay")) (.ref (He.ga K "Stay")) = some true := of_decide_eq_true (T.c.fact 257 (f := Wk.kiB "Stay" "Stay" true))
theorem Tx.nol (T : Tx K mg) : noList K = true := T.c.fact 258
theorem Tx.sys (T : Tx K mg) : HasSys K := Option.isSome_iff_exists.mp (T.c.fact 259)
theorem Tx.f_NoName_init (T : Tx K mg) : FD K "__init__" "NoName.__init__" s_NoName_init [] (a_NoName_init K) := let ⟨_, F⟩ := T.c.def_ 1 (d := d_NoName_init); fd_of F
theorem Tx.b_NoName_init (T : Tx K mg) : Binds K (fdOf K (a_NoName_init K)) ["self", "found"] [] := FunD.bindsN T.f_NoName_init fun _ _ _ _ _ _ us hl => match us, hl with | [_, _], _ => rfl
theorem Tx.f_NoNumber_init (T : Tx K mg) : FD K "__init__" "NoNumber.__init__" s_NoNumber_init [] (a_NoNumber_init K) := let ⟨_, F⟩ := T.c.def_ 2 (d := d_NoNumber_init); fd_of F
theorem Tx.b_NoNumber_init (T : Tx K mg) : Binds K (fdOf K (a_NoNumber_init K)) ["self", "found"] [] := FunD.bindsN T.f_NoNumber_init fun _ _ _ _ _ _ us hl => match us, hl with | [_, _], _ => rfl
theorem Tx.f_NoSort_init (T : Tx K mg) : FD K "__init__" "NoSort.__init__" s_NoSort_init [] (a_NoSort_init K) := let ⟨_, F⟩ := T.c.def_ 3 (d := d_NoSort_init); fd_of F
theorem Tx.b_NoSort_init (T : Tx K mg) : Binds K (fdOf K (a_NoSort_init K)) ["self", "found"] [] := FunD.bindsN T.f_NoSort_init fun _ _ _ _ _ _ us hl => match us, hl with | [_, _], _ => rfl
theorem Tx.f_NoYear_init (T : Tx K mg) : FD K "__init__" "NoYear.__init__" s_NoYear_init [] (a_NoYear_init K) := let ⟨_, F⟩ := T.c.def_ 4 (d := d_NoYear_init); fd_of F
theorem Tx.b_NoYear_init (T : Tx K mg) : Binds K (fdOf K (a_NoYear_init K)) ["self", "found"] [] := FunD.bindsN T.f_NoYear_init fun _ _ _ _ _ _ us hl => match us, hl with | [_, _], _ => rfl
theorem Tx.f_NoWeek_init (T : Tx K mg) : FD K "__init__" "NoWeek.__init__" s_NoWeek_init [] (a_NoWeek_init K) := let ⟨_, F⟩ := T.c.def_ 5 (d := d_NoWeek_init); fd_of F
theorem Tx.b_NoWeek_init (T : Tx K mg) : Binds K (fdOf K (a_NoWeek_init K)) ["self", "found"] [] := FunD.bindsN T.f_NoWeek_init fun _ _ _ _ _ _ us hl => match us, hl with | [_, _], _ => rfl
theorem Tx.f_NoRow_init (T : Tx K mg) : FD K "__init__" "NoRow.__init__" s_NoRow_init [] (a_NoRow_init K) := let ⟨_, F⟩ := T.c.def_ 6 (d := d_NoRow_init); fd_of F
theorem Tx.b_NoRow_init (T : Tx K mg) : Binds K (fdOf K (a_NoRow_init K)) ["self", "found"] [] := FunD.bindsN T.f_NoRow_init fun _ _ _ _ _ _ us hl => match us, hl with | [_, _], _ => rfl
theorem Tx.f_NoStay_init (T : Tx K mg) : FD K "__init__" "NoStay.__init__" s_NoStay_init [] (a_NoStay_init K) := let ⟨_, F⟩ := T.c.def_ 7 (d := d_NoStay_init); fd_of F
theorem Tx.b_NoStay_init (T : Tx K mg) : Binds K (fdOf K (a_NoStay_init K)) ["self", "found"] [] := FunD.bindsN T.f_NoStay_init fun _ _ _ _ _ _ us hl => match us, hl with | [_, _], _ => rfl
theorem Tx.f_NoRests_init (T : Tx K mg) : FD K "__init__" "NoRests.__init__" s_NoRests_init [] (a_NoRests_init K) := let ⟨_, F⟩ := T.c.def_ 8 (d := d_NoRests_init); fd_of F
theorem Tx.b_NoRests_init (T : Tx K mg) : Binds K (fdOf K (a_NoRests_init K)) ["self", "found"] [] := FunD.bindsN T.f_NoRests_init fun _ _ _ _ _ _ us hl => match us, hl with | [_, _], _ => rfl
theorem Tx.f_NoList_init (T : Tx K mg) : FD K "__init__" "NoList.__init__" s_NoList_init [] (a_NoList_init K) := let ⟨_, F⟩ := T.c.def_ 9 (d := d_NoList_init); fd_of F
theorem Tx.b_NoList_init (T : Tx K mg) : Binds K (fdOf K (a_NoList_init K)) ["self", "found"] [] := FunD.bindsN T.f_NoList_init fun _ _ _ _ _ _ us hl => match us, hl with | [_, _], _ => rfl
theorem Tx.f_is_whole (T : Tx K mg) : FD K "is_whole" "is_whole" s_is_whole [] (a_is_whole K) := let ⟨_, F⟩ := T.c.def_ 10 (d := d_is_whole); fd_of F
theorem Tx.k_is_whole (T : Tx K mg) : PySem.W.keepIn K (.ref (a_is_whole K)) = true := T.f_is_whole.kp
theorem Tx.b_is_whole (T : Tx K mg) : Binds K (fdOf K (a_is_whole K)) ["thing", "low", "high"] [] := FunD.bindsN T.f_is_whole fun _ _ _ _ _ _ us hl => match us, hl with | [_, _, _], _ => rfl
theorem Tx.f_is_name (T : Tx K mg) : FD K "is_name" "is_name" s_is_name [] (a_is_name K) := let ⟨_, F⟩ := T.c.def_ 11 (d := d_is_name); fd_of F
theorem Tx.k_is_name (T : Tx K mg) : PySem.W.keepIn K (.ref (a_is_name K)) = true := T.f_is_name.kp
theorem Tx.b_is_name (T : Tx K mg) : Binds K (fdOf K (a_is_name K)) ["thing"] [] := FunD.bindsN T.f_is_name fun _ _ _ _ _ _ us hl => match us, hl with | [_], _ => rfl
theorem Tx.f_need_name (T : Tx K mg) : FD K "need_name" "need_name" s_need_name [] (a_need_name K) := let ⟨_, F⟩ := T.c.def_ 13 (d := d_need_name); fd_of F
theorem Tx.k_need_name (T : Tx K mg) : PySem.W.keepIn K (.ref (a_need_name K)) = true := T.f_need_name.kp
theorem Tx.b_need_name (T : Tx K mg) : Binds K (fdOf K (a_need_name K)) ["thing"] [] := FunD.bindsN T.f_need_name fun _ _ _ _ _ _ us hl => match us, hl with | [_], _ => rfl
theorem Tx.f_need_number (T : Tx K mg) : FD K "need_number" "need_number" s_need_number [] (a_need_number K) := let ⟨_, F⟩ := T.c.def_ 14 (d := d_need_number); fd_of F
theorem Tx.k_need_number (T : Tx K mg) : PySem.W.keepIn K (.ref (a_need_number K)) = true := T.f_need_number.kp
theorem Tx.b_need_number (T : Tx K mg) : Binds K (fdOf K (a_need_number K)) ["thing", "low", "high"] [] := FunD.bindsN T.f_need_number fun _ _ _ _ _ _ us hl => match us, hl with | [_, _, _], _ => rfl
theorem Tx.f_Sort_init (T : Tx K mg) : FD K "__init__" "Sort.__init__" s_Sort_init [V.int (2), V.int (0)] (a_Sort_init K) := let ⟨_, F⟩ := T.c.def_ 15 (d := d_Sort_init); fd_of F
theorem Tx.f_Sort_kin (T : Tx K mg) : FD K "kin" "Sort.kin" s_Sort_kin [] (a_Sort_kin K) := let ⟨_, F⟩ := T.c.def_ 20 (d := d_Sort_kin); fd_of F
theorem Tx.b_Sort_kin (T : Tx K mg) : Binds K (fdOf K (a_Sort_kin K)) ["self"] [] := FunD.bindsN T.f_Sort_kin fun _ _ _ _ _ _ us hl => match us, hl with | [_], _ => rfl
theorem Tx.f_Sort_needs (T : Tx K mg) : FD K "needs" "Sort.needs" s_Sort_needs [] (a_Sort_needs K) := let ⟨_, F⟩ := T.c.def_ 21 (d := d_Sort_needs); fd_of F
theorem Tx.b_Sort_needs (T : Tx K mg) : Binds K (fdOf K (a_Sort_needs K)) ["self"] [] := FunD.bindsN T.f_Sort_needs fun _ _ _ _ _ _ us hl => match us, hl with | [_], _ => rfl
theorem Tx.f_Sort_keeps (T : Tx K mg) : FD K "keeps" "Sort.keeps" s_Sort_keeps [] (a_Sort_keeps K) := let ⟨_, F⟩ := T.c.def_ 22 (d := d_Sort_keeps); fd_of F
theorem Tx.b_Sort_keeps (T : Tx K mg) : Binds K (fdOf K (a_Sort_keeps K)) ["self"] [] := FunD.bindsN T.f_Sort_keeps fun _ _ _ _ _ _ us hl => match us, hl with | [_], _ => rfl
theorem Tx.f_Sort_bears (T : Tx K mg) : FD K "bears" "Sort.bears" s_Sort_bears [] (a_Sort_bears K) := let ⟨_, F⟩ := T.c.def_ 23 (d := d_Sort_bears); fd_of F
theorem Tx.b_Sort_bears (T : Tx K mg) : Binds K (fdOf K (a_Sort_bears K)) ["self"] [] := FunD.bindsN T.f_Sort_bears fun _ _ _ _ _ _ us hl => match us, hl with | [_], _ => rfl
theorem Tx.f_Row_init (T : Tx K mg) : FD K "__init__" "Row.__init__" s_Row_init [V.int (1)] (a_Row_init K) := let ⟨_, F⟩ := T.c.def_ 26 (d := d_Row_init); fd_of F
theorem Tx.f_Row_of_sort (T : Tx K mg) : FD K "of_sort" "Row.of_sort" s_Row_of_sort [] (a_Row_of_sort K) := let ⟨_, F⟩ := T.c.def_ 30 (d := d_Row_of_sort); fd_of F
theorem Tx.b_Row_of_sort (T : Tx K mg) : Binds K (fdOf K (a_Row_of_sort K)) ["self"] [] := FunD.bindsN T.f_Row_of_sort fun _ _ _ _ _ _ us hl => match us, hl with | [_], _ => rfl
theorem Tx.f_Row_week (T : Tx K mg) : FD K "week" "Row.week" s_Row_week [] (a_Row_week K) := let ⟨_, F⟩ := T.c.def_ 31 (d := d_Row_week); fd_of F
theorem Tx.b_Row_week (T : Tx K mg) : Binds K (fdOf K (a_Row_week K)) ["self"] [] := FunD.bindsN T.f_Row_week fun _ _ _ _ _ _ us hl => match us, hl with | [_], _ => rfl
theorem Tx.f_Row_heads (T : Tx K mg) : FD K "heads" "Row.heads" s_Row_heads [] (a_Row_heads K) := let ⟨_, F⟩ := T.c.def_ 32 (d := d_Row_heads); fd_of F
theorem Tx.b_Row_heads (T : Tx K mg) : Binds K (fdOf K (a_Row_heads K)) ["self"] [] := FunD.bindsN T.f_Row_heads fun _ _ _ _ _ _ us hl => match us, hl with | [_], _ => rfl
theorem Tx.f_Row_later (T : Tx K mg) : FD K "later" "Row.later" s_Row_later [] (a_Row_later K) := let ⟨_, F⟩ := T.c.def_ 34 (d := d_Row_later); fd_of F
theorem Tx.b_Row_later (T : Tx K mg) : Binds K (fdOf K (a_Row_later K)) ["self", "many"] [] := FunD.bindsN T.f_Row_later fun _ _ _ _ _ _ us hl => match us, hl with | [_, _], _ => rfl
theorem Tx.f_is_warmth (T : Tx K mg) : FD K "is_warmth" "is_warmth" s_is_warmth [] (a_is_warmth K) := let ⟨_, F⟩ := T.c.def_ 35 (d := d_is_warmth); fd_of F
theorem Tx.k_is_warmth (T : Tx K mg) : PySem.W.keepIn K (.ref (a_is_warmth K)) = true := T.f_is_warmth.kp
theorem Tx.b_is_warmth (T : Tx K mg) : Binds K (fdOf K (a_is_warmth K)) ["thing"] [] := FunD.bindsN T.f_is_warmth fun _ _ _ _ _ _ us hl => match us, hl with | [_], _ => rfl
theorem Tx.f_is_cold (T : Tx K mg) : FD K "is_cold" "is_cold" s_is_cold [] (a_is_cold K) := let ⟨_, F⟩ := T.c.def_ 36 (d := d_is_cold); fd_of F
theorem Tx.k_is_cold (T : Tx K mg) : PySem.W.keepIn K (.ref (a_is_cold K)) = true := T.f_is_cold.kp
theorem Tx.b_is_cold (T : Tx K mg) : Binds K (fdOf K (a_is_cold K)) ["thing"] [] := FunD.bindsN T.f_is_cold fun _ _ _ _ _ _ us hl => match us, hl with | [_], _ => rfl
theorem Tx.f_is_pair (T : Tx K mg) : FD K "is_pair" "is_pair" s_is_pair [] (a_is_pair K) := let ⟨_, F⟩ := T.c.def_ 37 (d := d_is_pair); fd_of F
theorem Tx.k_is_pair (T : Tx K mg) : PySem.W.keepIn K (.ref (a_is_pair K)) = true := T.f_is_pair.kp
theorem Tx.b_is_pair (T : Tx K mg) : Binds K (fdOf K (a_is_pair K)) ["thing"] [] := FunD.bindsN T.f_is_pair fun _ _ _ _ _ _ us hl => match us, hl with | [_], _ => rfl
theorem Tx.f_Year_init (T : Tx K mg) : FD K "__init__" "Year.__init__" s_Year_init [] (a_Year_init K) := let ⟨_, F⟩ := T.c.def_ 38 (d := d_Year_init); fd_of F
theorem Tx.f_Year_len (T : Tx K mg) : FD K "__len__" "Year.__len__" s_Year_len [] (a_Year_len K) := let ⟨_, F⟩ := T.c.def_ 39 (d := d_Year_len); fd_of F
theorem Tx.b_Year_len (T : Tx K mg) : Binds K (fdOf K (a_Year_len K)) ["self"] [] := FunD.bindsN T.f_Year_len fun _ _ _ _ _ _ us hl => match us, hl with | [_], _ => rfl
theorem Tx.f_Year_need_week (T : Tx K mg) : FD K "need_week" "Year.need_week" s_Year_need_week [] (a_Year_need_week K) := let ⟨_, F⟩ := T.c.def_ 41 (d := d_Year_need_week); fd_of F
theorem Tx.b_Year_need_week (T : Tx K mg) : Binds K (fdOf K (a_Year_need_week K)) ["self", "week"] [] := FunD.bindsN T.f_Year_need_week fun _ _ _ _ _ _ us hl => match us, hl with | [_, _], _ => rfl
theorem Tx.f_Year_pair (T : Tx K mg) : FD K "pair" "Year.pair" s_Year_pair [] (a_Year_pair K) := let ⟨_, F⟩ := T.c.def_ 42 (d := d_Year_pair); fd_of F
theorem Tx.b_Year_pair (T : Tx K mg) : Binds K (fdOf K (a_Year_pair K)) ["self", "week"] [] := FunD.bindsN T.f_Year_pair fun _ _ _ _ _ _ us hl => match us, hl with | [_, _], _ => rfl
theorem Tx.f_Year_tell (T : Tx K mg) : FD K "tell" "Year.tell" s_Year_tell [V.non] (a_Year_tell K) := let ⟨_, F⟩ := T.c.def_ 43 (d := d_Year_tell); fd_of F
theorem Tx.f_Year_warmth (T : Tx K mg) : FD K "warmth" "Year.warmth" s_Year_warmth [] (a_Year_warmth K) := let ⟨_, F⟩ := T.c.def_ 45 (d := d_Year_warmth); fd_of F
theorem Tx.b_Year_warmth (T : Tx K mg) : Binds K (fdOf K (a_Year_warmth K)) ["self", "week"] [] := FunD.bindsN T.f_Year_warmth fun _ _ _ _ _ _ us hl => match us, hl with | [_, _], _ => rfl
theorem Tx.f_Year_cold (T : Tx K mg) : FD K "cold" "Year.cold" s_Year_cold [] (a_Year_cold K) := let ⟨_, F⟩ := T.c.def_ 46 (d := d_Year_cold); fd_of F
theorem Tx.b_Year_cold (T : Tx K mg) : Binds K (fdOf K (a_Year_cold K)) ["self", "week"] [] := FunD.bindsN T.f_Year_cold fun _ _ _ _ _ _ us hl => match us, hl with | [_, _], _ => rfl
theorem Tx.f_Year_copied (T : Tx K mg) : FD K "copied" "Year.copied" s_Year_copied [] (a_Year_copied K) := let ⟨_, F⟩ := T.c.def_ 51 (d := d_Year_copied); fd_of F
theorem Tx.b_Year_copied (T : Tx K mg) : Binds K (fdOf K (a_Year_copied K)) ["self"] [] := FunD.bindsN T.f_Year_copied fun _ _ _ _ _ _ us hl => match us, hl with | [_], _ => rfl
theorem Tx.f_need_row (T : Tx K mg) : FD K "need_row" "need_row" s_need_row [] (a_need_row K) := let ⟨_, F⟩ := T.c.def_ 52 (d := d_need_row); fd_of F
theorem Tx.k_need_row (T : Tx K mg) : PySem.W.keepIn K (.ref (a_need_row K)) = true := T.f_need_row.kp
theorem Tx.b_need_row (T : Tx K mg) : Binds K (fdOf K (a_need_row K)) ["row"] [] := FunD.bindsN T.f_need_row fun _ _ _ _ _ _ us hl => match us, hl with | [_], _ => rfl
theorem Tx.f_need_rows (T : Tx K mg) : FD K "need_rows" "need_rows" s_need_rows [] (a_need_rows K) := let ⟨_, F⟩ := T.c.def_ 53 (d := d_need_rows); fd_of F
theorem Tx.k_need_rows (T : Tx K mg) : PySem.W.keepIn K (.ref (a_need_rows K)) = true := T.f_need_rows.kp
theorem Tx.b_need_rows (T : Tx K mg) : Binds K (fdOf K (a_need_rows K)) ["rows"] [] := FunD.bindsN T.f_need_rows fun _ _ _ _ _ _ us hl => match us, hl with | [_], _ => rfl
theorem Tx.f_need_year (T : Tx K mg) : FD K "need_year" "need_year" s_need_year [] (a_need_year K) := let ⟨_, F⟩ := T.c.def_ 54 (d := d_need_year); fd_of F
theorem Tx.k_need_year (T : Tx K mg) : PySem.W.keepIn K (.ref (a_need_year K)) = true := T.f_need_year.kp
theorem Tx.b_need_year (T : Tx K mg) : Binds K (fdOf K (a_need_year K)) ["year"] [] := FunD.bindsN T.f_need_year fun _ _ _ _ _ _ us hl => match us, hl with | [_], _ => rfl
theorem Tx.f_ripe_in (T : Tx K mg) : FD K "ripe_in" "ripe_in" s_ripe_in [] (a_ripe_in K) := let ⟨_, F⟩ := T.c.def_ 55 (d := d_ripe_in); fd_of F
theorem Tx.k_ripe_in (T : Tx K mg) : PySem.W.keepIn K (.ref (a_ripe_in K)) = true := T.f_ripe_in.kp
theorem Tx.b_ripe_in (T : Tx K mg) : Binds K (fdOf K (a_ripe_in K)) ["row", "year"] [] := FunD.bindsN T.f_ripe_in fun _ _ _ _ _ _ us hl => match us, hl with | [_, _], _ => rfl
theorem Tx.f_last_in (T : Tx K mg) : FD K "last_in" "last_in" s_last_in [] (a_last_in K) := let ⟨_, F⟩ := T.c.def_ 56 (d := d_last_in); fd_of F
theorem Tx.k_last_in (T : Tx K mg) : PySem.W.keepIn K (.ref (a_last_in K)) = true := T.f_last_in.kp
theorem Tx.b_last_in (T : Tx K mg) : Binds K (fdOf K (a_last_in K)) ["row", "year"] [] := FunD.bindsN T.f_last_in fun _ _ _ _ _ _ us hl => match us, hl with | [_, _], _ => rfl
theorem Tx.f_lost_in (T : Tx K mg) : FD K "lost_in" "lost_in" s_lost_in [] (a_lost_in K) := let ⟨_, F⟩ := T.c.def_ 57 (d := d_lost_in); fd_of F
theorem Tx.k_lost_in (T : Tx K mg) : PySem.W.keepIn K (.ref (a_lost_in K)) = true := T.f_lost_in.kp
theorem Tx.b_lost_in (T : Tx K mg) : Binds K (fdOf K (a_lost_in K)) ["row", "year"] [] := FunD.bindsN T.f_lost_in fun _ _ _ _ _ _ us hl => match us, hl with | [_, _], _ => rfl
theorem Tx.f_ready_in (T : Tx K mg) : FD K "ready_in" "ready_in" s_ready_in [] (a_ready_in K) := let ⟨_, F⟩ := T.c.def_ 58 (d := d_ready_in); fd_of F
theorem Tx.k_ready_in (T : Tx K mg) : PySem.W.keepIn K (.ref (a_ready_in K)) = true := T.f_ready_in.kp
theorem Tx.b_ready_in (T : Tx K mg) : Binds K (fdOf K (a_ready_in K)) ["row", "year"] [] := FunD.bindsN T.f_ready_in fun _ _ _ _ _ _ us hl => match us, hl with | [_, _], _ => rfl
theorem Tx.f_ripe_week (T : Tx K mg) : FD K "ripe_week" "ripe_week" s_ripe_week [] (a_ripe_week K) := let ⟨_, F⟩ := T.c.def_ 59 (d := d_ripe_week); fd_of F
theorem Tx.k_ripe_week (T : Tx K mg) : PySem.W.keepIn K (.ref (a_ripe_week K)) = true := T.f_ripe_week.kp
theorem Tx.b_ripe_week (T : Tx K mg) : Binds K (fdOf K (a_ripe_week K)) ["row", "year"] [] := FunD.bindsN T.f_ripe_week fun _ _ _ _ _ _ us hl => match us, hl with | [_, _], _ => rfl
theorem Tx.f_last_stand (T : Tx K mg) : FD K "last_stand" "last_stand" s_last_stand [] (a_last_stand K) := let ⟨_, F⟩ := T.c.def_ 60 (d := d_last_stand); fd_of F
theorem Tx.k_last_stand (T : Tx K mg) : PySem.W.keepIn K (.ref (a_last_stand K)) = true := T.f_last_stand.kp
theorem Tx.b_last_stand (T : Tx K mg) : Binds K (fdOf K (a_last_stand K)) ["row", "year"] [] := FunD.bindsN T.f_last_stand fun _ _ _ _ _ _ us hl => match us, hl with | [_, _], _ => rfl
theorem Tx.f_lost_week (T : Tx K mg) : FD K "lost_week" "lost_week" s_lost_week [] (a_lost_week K) := let ⟨_, F⟩ := T.c.def_ 61 (d := d_lost_week); fd_of F
theorem Tx.k_lost_week (T : Tx K mg) : PySem.W.keepIn K (.ref (a_lost_week K)) = true := T.f_lost_week.kp
theorem Tx.b_lost_week (T : Tx K mg) : Binds K (fdOf K (a_lost_week K)) ["row", "year"] [] := FunD.bindsN T.f_lost_week fun _ _ _ _ _ _ us hl => match us, hl with | [_, _], _ => rfl
theorem Tx.f_ready (T : Tx K mg) : FD K "ready" "ready" s_ready [] (a_ready K) := let ⟨_, F⟩ := T.c.def_ 62 (d := d_ready); fd_of F
theorem Tx.k_ready (T : Tx K mg) : PySem.W.keepIn K (.ref (a_ready K)) = true := T.f_ready.kp
theorem Tx.b_ready (T : Tx K mg) : Binds K (fdOf K (a_ready K)) ["row", "year"] [] := FunD.bindsN T.f_ready fun _ _ _ _ _ _ us hl => match us, hl with | [_, _], _ => rfl
theorem Tx.f_state (T : Tx K mg) : FD K "state" "state" s_state [] (a_state K) := let ⟨_, F⟩ := T.c.def_ 63 (d := d_state); fd_of F
theorem Tx.k_state (T : Tx K mg) : PySem.W.keepIn K (.ref (a_state K)) = true := T.f_state.kp
theorem Tx.b_state (T : Tx K mg) : Binds K (fdOf K (a_state K)) ["row", "year", "week"] [] := FunD.bindsN T.f_state fun _ _ _ _ _ _ us hl => match us, hl with | [_, _, _], _ => rfl
theorem Tx.f_week_heads (T : Tx K mg) : FD K "week_heads" "week_heads" s_week_heads [] (a_week_heads K) := let ⟨_, F⟩ := T.c.def_ 64 (d := d_week_heads); fd_of F
theorem Tx.k_week_heads (T : Tx K mg) : PySem.W.keepIn K (.ref (a_week_heads K)) = true := T.f_week_heads.kp
theorem Tx.b_week_heads (T : Tx K mg) : Binds K (fdOf K (a_week_heads K)) ["rows", "year"] [] := FunD.bindsN T.f_week_heads fun _ _ _ _ _ _ us hl => match us, hl with | [_, _], _ => rfl
theorem Tx.f_moved (T : Tx K mg) : FD K "moved" "moved" s_moved [V.non] (a_moved K) := let ⟨_, F⟩ := T.c.def_ 65 (d := d_moved); fd_of F
theorem Tx.k_moved (T : Tx K mg) : PySem.W.keepIn K (.ref (a_moved K)) = true := T.f_moved.kp
theorem Tx.f_are_rests (T : Tx K mg) : FD K "are_rests" "are_rests" s_are_rests [] (a_are_rests K) := let ⟨_, F⟩ := T.c.def_ 66 (d := d_are_rests); fd_of F
theorem Tx.k_are_rests (T : Tx K mg) : PySem.W.keepIn K (.ref (a_are_rests K)) = true := T.f_are_rests.kp
theorem Tx.b_are_rests (T : Tx K mg) : Binds K (fdOf K (a_are_rests K)) ["thing"] [] := FunD.bindsN T.f_are_rests fun _ _ _ _ _ _ us hl => match us, hl with | [_], _ => rfl
theorem Tx.f_need_rests (T : Tx K mg) : FD K "need_rests" "need_rests" s_need_rests [] (a_need_rests K) := let ⟨_, F⟩ := T.c.def_ 67 (d := d_need_rests); fd_of F
theorem Tx.k_need_rests (T : Tx K mg) : PySem.W.keepIn K (.ref (a_need_rests K)) = true := T.f_need_rests.kp
theorem Tx.b_need_rests (T : Tx K mg) : Binds K (fdOf K (a_need_rests K)) ["thing"] [] := FunD.bindsN T.f_need_rests fun _ _ _ _ _ _ us hl => match us, hl with | [_], _ => rfl
theorem Tx.f_may_follow (T : Tx K mg) : FD K "may_follow" "may_follow" s_may_follow [] (a_may_follow K) := let ⟨_, F⟩ := T.c.def_ 68 (d := d_may_follow); fd_of F
theorem Tx.k_may_follow (T : Tx K mg) : PySem.W.keepIn K (.ref (a_may_follow K)) = true := T.f_may_follow.kp
theorem Tx.b_may_follow (T : Tx K mg) : Binds K (fdOf K (a_may_follow K)) ["stay", "other", "rests"] [] := FunD.bindsN T.f_may_follow fun _ _ _ _ _ _ us hl => match us, hl with | [_, _, _], _ => rfl
theorem Tx.f_Stay_init (T : Tx K mg) : FD K "__init__" "Stay.__init__" s_Stay_init [] (a_Stay_init K) := let ⟨_, F⟩ := T.c.def_ 69 (d := d_Stay_init); fd_of F
theorem Tx.f_Stay_first (T : Tx K mg) : FD K "first" "Stay.first" s_Stay_first [] (a_Stay_first K) := let ⟨_, F⟩ := T.c.def_ 74 (d := d_Stay_first); fd_of F
theorem Tx.b_Stay_first (T : Tx K mg) : Binds K (fdOf K (a_Stay_first K)) ["self"] [] := FunD.bindsN T.f_Stay_first fun _ _ _ _ _ _ us hl => match us, hl with | [_], _ => rfl
theorem Tx.f_Stay_last (T : Tx K mg) : FD K "last" "Stay.last" s_Stay_last [] (a_Stay_last K) := let ⟨_, F⟩ := T.c.def_ 75 (d := d_Stay_last); fd_of F
theorem Tx.b_Stay_last (T : Tx K mg) : Binds K (fdOf K (a_Stay_last K)) ["self"] [] := FunD.bindsN T.f_Stay_last fun _ _ _ _ _ _ us hl => match us, hl with | [_], _ => rfl
theorem Tx.f_Stay_kin (T : Tx K mg) : FD K "kin" "Stay.kin" s_Stay_kin [] (a_Stay_kin K) := let ⟨_, F⟩ := T.c.def_ 76 (d := d_Stay_kin); fd_of F
theorem Tx.b_Stay_kin (T : Tx K mg) : Binds K (fdOf K (a_Stay_kin K)) ["self"] [] := FunD.bindsN T.f_Stay_kin fun _ _ _ _ _ _ us hl => match us, hl with | [_], _ => rfl
theorem Tx.f_Stay_behind (T : Tx K mg) : FD K "behind" "Stay.behind" s_Stay_behind [V.non] (a_Stay_behind K) := let ⟨_, F⟩ := T.c.def_ 78 (d := d_Stay_behind); fd_of F
theorem Tx.f_l_cell (T : Tx K mg) : FD K "_law_cell" "_law_cell" s_l_cell [] (a_l_cell K) := let ⟨_, F⟩ := T.c.def_ 79 (d := d_l_cell); fd_of F
theorem Tx.k_l_cell (T : Tx K mg) : PySem.W.keepIn K (.ref (a_l_cell K)) = true := T.f_l_cell.kp
theorem Tx.b_l_cell (T : Tx K mg) : Binds K (fdOf K (a_l_cell K)) ["script", "k"] [] := FunD.bindsN T.f_l_cell fun _ _ _ _ _ _ us hl => match us, hl with | [_, _], _ => rfl
theorem Tx.f_l_box (T : Tx K mg) : FD K "_law_box" "_law_box" s_l_box [] (a_l_box K) := let ⟨_, F⟩ := T.c.def_ 80 (d := d_l_box); fd_of F
theorem Tx.k_l_box (T : Tx K mg) : PySem.W.keepIn K (.ref (a_l_box K)) = true := T.f_l_box.kp
theorem Tx.b_l_box (T : Tx K mg) : Binds K (fdOf K (a_l_box K)) ["cell"] [] := FunD.bindsN T.f_l_box fun _ _ _ _ _ _ us hl => match us, hl with | [_], _ => rfl
theorem Tx.f_l_take (T : Tx K mg) : FD K "_law_take" "_law_take" s_l_take [] (a_l_take K) := let ⟨_, F⟩ := T.c.def_ 81 (d := d_l_take); fd_of F
theorem Tx.k_l_take (T : Tx K mg) : PySem.W.keepIn K (.ref (a_l_take K)) = true := T.f_l_take.kp
theorem Tx.b_l_take (T : Tx K mg) : Binds K (fdOf K (a_l_take K)) ["box", "many"] [] := FunD.bindsN T.f_l_take fun _ _ _ _ _ _ us hl => match us, hl with | [_, _], _ => rfl
theorem Tx.f_l_names (T : Tx K mg) : FD K "_law_names" "_law_names" s_l_names [] (a_l_names K) := let ⟨_, F⟩ := T.c.def_ 82 (d := d_l_names); fd_of F
theorem Tx.k_l_names (T : Tx K mg) : PySem.W.keepIn K (.ref (a_l_names K)) = true := T.f_l_names.kp
theorem Tx.b_l_names (T : Tx K mg) : Binds K (fdOf K (a_l_names K)) ["box", "many"] [] := FunD.bindsN T.f_l_names fun _ _ _ _ _ _ us hl => match us, hl with | [_, _], _ => rfl
theorem Tx.f_l_weeks (T : Tx K mg) : FD K "_law_weeks" "_law_weeks" s_l_weeks [] (a_l_weeks K) := let ⟨_, F⟩ := T.c.def_ 83 (d := d_l_weeks); fd_of F
theorem Tx.k_l_weeks (T : Tx K mg) : PySem.W.keepIn K (.ref (a_l_weeks K)) = true := T.f_l_weeks.kp
theorem Tx.b_l_weeks (T : Tx K mg) : Binds K (fdOf K (a_l_weeks K)) ["box"] [] := FunD.bindsN T.f_l_weeks fun _ _ _ _ _ _ us hl => match us, hl with | [_], _ => rfl
theorem Tx.f_l_ripe (T : Tx K mg) : FD K "_law_ripe" "_law_ripe" s_l_ripe [] (a_l_ripe K) := let ⟨_, F⟩ := T.c.def_ 84 (d := d_l_ripe); fd_of F
theorem Tx.k_l_ripe (T : Tx K mg) : PySem.W.keepIn K (.ref (a_l_ripe K)) = true := T.f_l_ripe.kp
theorem Tx.b_l_ripe (T : Tx K mg) : Binds K (fdOf K (a_l_ripe K)) ["row", "weeks"] [] := FunD.bindsN T.f_l_ripe fun _ _ _ _ _ _ us hl => match us, hl with | [_, _], _ => rfl
theorem Tx.f_l_last (T : Tx K mg) : FD K "_law_last" "_law_last" s_l_last [] (a_l_last K) := let ⟨_, F⟩ := T.c.def_ 85 (d := d_l_last); fd_of F
theorem Tx.k_l_last (T : Tx K mg) : PySem.W.keepIn K (.ref (a_l_last K)) = true := T.f_l_last.kp
theorem Tx.b_l_last (T : Tx K mg) : Binds K (fdOf K (a_l_last K)) ["row", "weeks"] [] := FunD.bindsN T.f_l_last fun _ _ _ _ _ _ us hl => match us, hl with | [_, _], _ => rfl
theorem Tx.f_l_lost (T : Tx K mg) : FD K "_law_lost" "_law_lost" s_l_lost [] (a_l_lost K) := let ⟨_, F⟩ := T.c.def_ 86 (d := d_l_lost); fd_of F
theorem Tx.k_l_lost (T : Tx K mg) : PySem.W.keepIn K (.ref (a_l_lost K)) = true := T.f_l_lost.kp
theorem Tx.b_l_lost (T : Tx K mg) : Binds K (fdOf K (a_l_lost K)) ["row", "weeks"] [] := FunD.bindsN T.f_l_lost fun _ _ _ _ _ _ us hl => match us, hl with | [_, _], _ => rfl
theorem Tx.f_l_cut (T : Tx K mg) : FD K "_law_cut" "_law_cut" s_l_cut [] (a_l_cut K) := let ⟨_, F⟩ := T.c.def_ 87 (d := d_l_cut); fd_of F
theorem Tx.k_l_cut (T : Tx K mg) : PySem.W.keepIn K (.ref (a_l_cut K)) = true := T.f_l_cut.kp
theorem Tx.b_l_cut (T : Tx K mg) : Binds K (fdOf K (a_l_cut K)) ["row", "weeks"] [] := FunD.bindsN T.f_l_cut fun _ _ _ _ _ _ us hl => match us, hl with | [_, _], _ => rfl
theorem Tx.f_l_numbers (T : Tx K mg) : FD K "_law_numbers" "_law_numbers" s_l_numbers [] (a_l_numbers K) := let ⟨_, F⟩ := T.c.def_ 88 (d := d_l_numbers); fd_of F
theorem Tx.k_l_numbers (T : Tx K mg) : PySem.W.keepIn K (.ref (a_l_numbers K)) = true := T.f_l_numbers.kp
theorem Tx.b_l_numbers (T : Tx K mg) : Binds K (fdOf K (a_l_numbers K)) ["box"] [] := FunD.bindsN T.f_l_numbers fun _ _ _ _ _ _ us hl => match us, hl with | [_], _ => rfl
theorem Tx.f_l_scene (T : Tx K mg) : FD K "_law_scene" "_law_scene" s_l_scene [] (a_l_scene K) := let ⟨_, F⟩ := T.c.def_ 89 (d := d_l_scene); fd_of F
theorem Tx.k_l_scene (T : Tx K mg) : PySem.W.keepIn K (.ref (a_l_scene K)) = true := T.f_l_scene.kp
theorem Tx.b_l_scene (T : Tx K mg) : Binds K (fdOf K (a_l_scene K)) ["box", "weeks", "by"] [] := FunD.bindsN T.f_l_scene fun _ _ _ _ _ _ us hl => match us, hl with | [_, _, _], _ => rfl
theorem Tx.f_l_rows (T : Tx K mg) : FD K "_law_rows" "_law_rows" s_l_rows [] (a_l_rows K) := let ⟨_, F⟩ := T.c.def_ 90 (d := d_l_rows); fd_of F
theorem Tx.k_l_rows (T : Tx K mg) : PySem.W.keepIn K (.ref (a_l_rows K)) = true := T.f_l_rows.kp
theorem Tx.b_l_rows (T : Tx K mg) : Binds K (fdOf K (a_l_rows K)) ["cards", "names", "kins", "by"] [] := FunD.bindsN T.f_l_rows fun _ _ _ _ _ _ us hl => match us, hl with | [_, _, _, _], _ => rfl
theorem Tx.f_l_later (T : Tx K mg) : FD K "_law_later" "_law_later" s_l_later [] (a_l_later K) := let ⟨_, F⟩ := T.c.def_ 91 (d := d_l_later); fd_of F
theorem Tx.k_l_later (T : Tx K mg) : PySem.W.keepIn K (.ref (a_l_later K)) = true := T.f_l_later.kp
theorem Tx.b_l_later (T : Tx K mg) : Binds K (fdOf K (a_l_later K)) ["thing", "by"] [] := FunD.bindsN T.f_l_later fun _ _ _ _ _ _ us hl => match us, hl with | [_, _], _ => rfl
theorem Tx.f_l_told (T : Tx K mg) : FD K "_law_told" "_law_told" s_l_told [] (a_l_told K) := let ⟨_, F⟩ := T.c.def_ 92 (d := d_l_told); fd_of F
theorem Tx.k_l_told (T : Tx K mg) : PySem.W.keepIn K (.ref (a_l_told K)) = true := T.f_l_told.kp
theorem Tx.b_l_told (T : Tx K mg) : Binds K (fdOf K (a_l_told K)) ["rows", "year"] [] := FunD.bindsN T.f_l_told fun _ _ _ _ _ _ us hl => match us, hl with | [_, _], _ => rfl
theorem Tx.f_l_own (T : Tx K mg) : FD K "_law_own" "_law_own" s_l_own [] (a_l_own K) := let ⟨_, F⟩ := T.c.def_ 93 (d := d_l_own); fd_of F
theorem Tx.k_l_own (T : Tx K mg) : PySem.W.keepIn K (.ref (a_l_own K)) = true := T.f_l_own.kp
theorem Tx.b_l_own (T : Tx K mg) : Binds K (fdOf K (a_l_own K)) ["cards", "weeks"] [] := FunD.bindsN T.f_l_own fun _ _ _ _ _ _ us hl => match us, hl with | [_, _], _ => rfl
theorem Tx.f_l_states (T : Tx K mg) : FD K "_law_states" "_law_states" s_l_states [] (a_l_states K) := let ⟨_, F⟩ := T.c.def_ 94 (d := d_l_states); fd_of F
theorem Tx.k_l_states (T : Tx K mg) : PySem.W.keepIn K (.ref (a_l_states K)) = true := T.f_l_states.kp
theorem Tx.b_l_states (T : Tx K mg) : Binds K (fdOf K (a_l_states K)) ["rows", "year"] [] := FunD.bindsN T.f_l_states fun _ _ _ _ _ _ us hl => match us, hl with | [_, _], _ => rfl
theorem Tx.f_l_stays_right (T : Tx K mg) : FD K "_law_stays_right" "_law_stays_right" s_l_stays_right [] (a_l_stays_right K) := let ⟨_, F⟩ := T.c.def_ 95 (d := d_l_stays_right); fd_of F
theorem Tx.k_l_stays_right (T : Tx K mg) : PySem.W.keepIn K (.ref (a_l_stays_right K)) = true := T.f_l_stays_right.kp
theorem Tx.b_l_stays_right (T : Tx K mg) : Binds K (fdOf K (a_l_stays_right K)) ["box", "first", "second", "kins", "by"] [] := FunD.bindsN T.f_l_stays_right fun _ _ _ _ _ _ us hl => match us, hl with | [_, _, _, _, _], _ => rfl
theorem Tx.f_l_right (T : Tx K mg) : FD K "_law_right" "_law_right" s_l_right [] (a_l_right K) := let ⟨_, F⟩ := T.c.def_ 96 (d := d_l_right); fd_of F
theorem Tx.k_l_right (T : Tx K mg) : PySem.W.keepIn K (.ref (a_l_right K)) = true := T.f_l_right.kp
theorem Tx.b_l_right (T : Tx K mg) : Binds K (fdOf K (a_l_right K)) ["box"] [] := FunD.bindsN T.f_l_right fun _ _ _ _ _ _ us hl => match us, hl with | [_], _ => rfl
theorem Tx.f_law (T : Tx K mg) : FD K "law" "law" s_law [] (a_law K) := let ⟨_, F⟩ := T.c.def_ 97 (d := d_law); fd_of F
theorem Tx.kb_Row_init_4 (T : Tx K mg) : KB K (fdOf K (a_Row_init K)) ["self", "sort", "week", "heads"] 4 [] (fun vs zs => gI [0, 1, 2, 3] (vs ++ zs ++ [V.int (1)])) := kb_d T.f_Row_init (by simp) (fun vs ds zs => gI [0, 1, 2, 3] (vs ++ zs ++ ds)) (fun r1 r2 r3 => vals_gI (Vals.append (Vals.append r1 r3) r2) _) fun _ _ _ _ _ _ _ us its ws l1 l2 l3 => match us, its, ws, l1, l2, l3 with | [_, _, _, _], [_], [], _, _, _ => ⟨_, rfl, rfl⟩
theorem Tx.kb_Year_init_2 (T : Tx K mg) : KB K (fdOf K (a_Year_init K)) ["self", "normal"] 2 [] (fun vs zs => gI [0, 1] (vs ++ zs)) := kb_n T.f_Year_init (fun vs zs => gI [0, 1] (vs ++ zs)) (fun r1 r2 => vals_gI (Vals.append r1 r2) _) fun _ _ _ _ _ _ us ws l1 l2 => match us, ws, l1, l2 with | [_, _], [], _, _ => rfl
theorem Tx.kb_Year_tell_3_cold (T : Tx K mg) : KB K (fdOf K (a_Year_tell K)) ["self", "week", "warmth", "cold"] 3 ["cold"] (fun vs zs => gI [0, 1, 2, 3] (vs ++ zs ++ [V.non])) := kb_d T.f_Year_tell (by simp) (fun vs ds zs => gI [0, 1, 2, 3] (vs ++ zs ++ ds)) (fun r1 r2 r3 => vals_gI (Vals.append (Vals.append r1 r3) r2) _) fun _ _ _ _ _ _ _ us its ws l1 l2 l3 => match us, its, ws, l1, l2, l3 with | [_, _, _], [_], [_], _, _, _ => ⟨_, rfl, rfl⟩
theorem Tx.kb_Sort_init_6 (T : Tx K mg) : KB K (fdOf K (a_Sort_init K)) ["self", "name", "kin", "needs", "keeps", "bears"] 6 [] (fun vs zs => gI [0, 1, 2, 3, 4, 5] (vs ++ zs ++ [V.int (2), V.int (0)])) := kb_d T.f_Sort_init (by simp) (fun vs ds zs => gI [0, 1, 2, 3, 4, 5] (vs ++ zs ++ ds)) (fun r1 r2 r3 => vals_gI (Vals.append (Vals.append r1 r3) r2) _) fun _ _ _ _ _ _ _ us its ws l1 l2 l3 => match us, its, ws, l1, l2, l3 with | [_, _, _, _, _, _], [_, _], [], _, _, _ => ⟨_, rfl, rfl⟩
theorem Tx.kb_Stay_init_3 (T : Tx K mg) : KB K (fdOf K (a_Stay_init K)) ["self", "row", "last"] 3 [] (fun vs zs => gI [0, 1, 2] (vs ++ zs)) := kb_n T.f_Stay_init (fun vs zs => gI [0, 1, 2] (vs ++ zs)) (fun r1 r2 => vals_gI (Vals.append r1 r2) _) fun _ _ _ _ _ _ us ws l1 l2 => match us, ws, l1, l2 with | [_, _, _], [], _, _ => rfl
theorem Tx.kb_Stay_behind_3 (T : Tx K mg) : KB K (fdOf K (a_Stay_behind K)) ["self", "other", "rests"] 3 [] (fun vs zs => gI [0, 1, 2] (vs ++ zs ++ [V.non])) := kb_d T.f_Stay_behind (by simp) (fun vs ds zs => gI [0, 1, 2] (vs ++ zs ++ ds)) (fun r1 r2 r3 => vals_gI (Vals.append (Vals.append r1 r3) r2) _) fun _ _ _ _ _ _ _ us its ws l1 l2 l3 => match us, its, ws, l1, l2, l3 with | [_, _, _], [_], [], _, _, _ => ⟨_, rfl, rfl⟩
theorem Tx.kb_Stay_behind_2 (T : Tx K mg) : KB K (fdOf K (a_Stay_behind K)) ["self", "other", "rests"] 2 [] (fun vs zs => gI [0, 1, 2] (vs ++ zs ++ [V.non])) := kb_d T.f_Stay_behind (by simp) (fun vs ds zs => gI [0, 1, 2] (vs ++ zs ++ ds)) (fun r1 r2 r3 => vals_gI (Vals.append (Vals.append r1 r3) r2) _) fun _ _ _ _ _ _ _ us its ws l1 l2 l3 => match us, its, ws, l1, l2, l3 with | [_, _], [_], [], _, _, _ => ⟨_, rfl, rfl⟩
theorem Tx.kb_moved_5 (T : Tx K mg) : KB K (fdOf K (a_moved K)) ["rows", "year", "week", "warmth", "cold"] 5 [] (fun vs zs => gI [0, 1, 2, 3, 4] (vs ++ zs ++ [V.non])) := kb_d T.f_moved (by simp) (fun vs ds zs => gI [0, 1, 2, 3, 4] (vs ++ zs ++ ds)) (fun r1 r2 r3 => vals_gI (Vals.append (Vals.append r1 r3) r2) _) fun _ _ _ _ _ _ _ us its ws l1 l2 l3 => match us, its, ws, l1, l2, l3 with | [_, _, _, _, _], [_], [], _, _, _ => ⟨_, rfl, rfl⟩
end
theorem sc_NoName_init : FnScope ["self", "found"] ["self", "found"] (defScope s_NoName_init) := ⟨rfl, rfl, rfl, by decide +kernel, rfl, by decide +kernel, by decide +kernel⟩
theorem sc_NoNumber_init : FnScope ["self", "found"] ["self", "found"] (defScope s_NoNumber_init) := ⟨rfl, rfl, rfl, by decide +kernel, rfl, by decide +kernel, by decide +kernel⟩
theorem sc_NoSort_init : FnScope ["self", "found"] ["self", "found"] (defScope s_NoSort_init) := ⟨rfl, rfl, rfl, by decide +kernel, rfl, by decide +kernel, by decide +kernel⟩
theorem sc_NoYear_init : FnScope ["self", "found"] ["self", "found"] (defScope s_NoYear_init) := ⟨rfl, rfl, rfl, by decide +kernel, rfl, by decide +kernel, by decide +kernel⟩
theorem sc_NoWeek_init : FnScope ["self", "found"] ["self", "found"] (defScope s_NoWeek_init) := ⟨rfl, rfl, rfl, by decide +kernel, rfl, by decide +kernel, by decide +kernel⟩
theorem sc_NoRow_init : FnScope ["self", "found"] ["self", "found"] (defScope s_NoRow_init) := ⟨rfl, rfl, rfl, by decide +kernel, rfl, by decide +kernel, by decide +kernel⟩
theorem sc_NoStay_init : FnScope ["self", "found"] ["self", "found"] (defScope s_NoStay_init) := ⟨rfl, rfl, rfl, by decide +kernel, rfl, by decide +kernel, by decide +kernel⟩
theorem sc_NoRests_init : FnScope ["self", "found"] ["self", "found"] (defScope s_NoRests_init) := ⟨rfl, rfl, rfl, by decide +kernel, rfl, by decide +kernel, by decide +kernel⟩
theorem sc_NoList_init : FnScope ["self", "found"] ["self", "found"] (defScope s_NoList_init) := ⟨rfl, rfl, rfl, by decide +kernel, rfl, by decide +kernel, by decide +kernel⟩
theorem sc_is_whole : FnScope ["thing", "low", "high"] ["thing", "low", "high"] (defScope s_is_whole) := ⟨rfl, rfl, rfl, by decide +kernel, rfl, by decide +kernel, by decide +kernel⟩
theorem sc_is_name : FnScope ["thing", "sign"] ["thing"] (defScope s_is_name) := ⟨rfl, rfl, rfl, by decide +kernel, rfl, by decide +kernel, by decide +kernel⟩
theorem sc_need_name : FnScope ["thing"] ["thing"] (defScope s_need_name) := ⟨rfl, rfl, rfl, by decide +kernel, rfl, by decide +kernel, by decide +kernel⟩
theorem sc_need_number : FnScope ["thing", "low", "high"] ["thing", "low", "high"] (defScope s_need_number) := ⟨rfl, rfl, rfl, by decide +kernel, rfl, by decide +kernel, by decide +kernel⟩
theorem sc_Sort_init : FnScope ["self", "name", "kin", "needs", "keeps", "bears"] ["self", "name", "kin", "needs", "keeps", "bears"] (defScope s_Sort_init) := ⟨rfl, rfl, rfl, by decide +kernel, rfl, by decide +kernel, by decide +kernel⟩
theorem sc_Sort_kin : FnScope ["self"] ["self"] (defScope s_Sort_kin) := ⟨rfl, rfl, rfl, by decide +kernel, rfl, by decide +kernel, by decide +kernel⟩
theorem sc_Sort_needs : FnScope ["self"] ["self"] (defScope s_Sort_needs) := ⟨rfl, rfl, rfl, by decide +kernel, rfl, by decide +kernel, by decide +kernel⟩
theorem sc_Sort_keeps : FnScope ["self"] ["self"] (defScope s_Sort_keeps) := ⟨rfl, rfl, rfl, by decide +kernel, rfl, by decide +kernel, by decide +kernel⟩
theorem sc_Sort_bears : FnScope ["self"] ["self"] (defScope s_Sort_bears) := ⟨rfl, rfl, rfl, by decide +kernel, rfl, by decide +kernel, by decide +kernel⟩
theorem sc_Row_init : FnScope ["self", "sort", "week", "heads"] ["self", "sort", "week", "heads"] (defScope s_Row_init) := ⟨rfl, rfl, rfl, by decide +kernel, rfl, by decide +kernel, by decide +kernel⟩
theorem sc_Row_of_sort : FnScope ["self"] ["self"] (defScope s_Row_of_sort) := ⟨rfl, rfl, rfl, by decide +kernel, rfl, by decide +kernel, by decide +kernel⟩
theorem sc_Row_week : FnScope ["self"] ["self"] (defScope s_Row_week) := ⟨rfl, rfl, rfl, by decide +kernel, rfl, by decide +kernel, by decide +kernel⟩
theorem sc_Row_heads : FnScope ["self"] ["self"] (defScope s_Row_heads) := ⟨rfl, rfl, rfl, by decide +kernel, rfl, by decide +kernel, by decide +kernel⟩
theorem sc_Row_later : FnScope ["self", "many"] ["self", "many"] (defScope s_Row_later) := ⟨rfl, rfl, rfl, by decide +kernel, rfl, by decide +kernel, by decide +kernel⟩
theorem sc_is_warmth : FnScope ["thing"] ["thing"] (defScope s_is_warmth) := ⟨rfl, rfl, rfl, by decide +kernel, rfl, by decide +kernel, by decide +kernel⟩
theorem sc_is_cold : FnScope ["thing"] ["thing"] (defScope s_is_cold) := ⟨rfl, rfl, rfl, by decide +kernel, rfl, by decide +kernel, by decide +kernel⟩
theorem sc_is_pair : FnScope ["thing"] ["thing"] (defScope s_is_pair) := ⟨rfl, rfl, rfl, by decide +kernel, rfl, by decide +kernel, by decide +kernel⟩
theorem sc_Year_init : FnScope ["self", "normal", "thing"] ["self", "normal"] (defScope s_Year_init) := ⟨rfl, rfl, rfl, by decide +kernel, rfl, by decide +kernel, by decide +kernel⟩
theorem sc_Year_len : FnScope ["self"] ["self"] (defScope s_Year_len) := ⟨rfl, rfl, rfl, by decide +kernel, rfl, by decide +kernel, by decide +kernel⟩
theorem sc_Year_need_week : FnScope ["self", "week"] ["self", "week"] (defScope s_Year_need_week) := ⟨rfl, rfl, rfl, by decide +kernel, rfl, by decide +kernel, by decide +kernel⟩
theorem sc_Year_pair : FnScope ["self", "week"] ["self", "week"] (defScope s_Year_pair) := ⟨rfl, rfl, rfl, by decide +kernel, rfl, by decide +kernel, by decide +kernel⟩
theorem sc_Year_tell : FnScope ["self", "week", "warmth", "cold"] ["self", "week", "warmth", "cold"] (defScope s_Year_tell) := ⟨rfl, rfl, rfl, by decide +kernel, rfl, by decide +kernel, by decide +kernel⟩
theorem sc_Year_warmth : FnScope ["self", "week"] ["self", "week"] (defScope s_Year_warmth) := ⟨rfl, rfl, rfl, by decide +kernel, rfl, by decide +kernel, by decide +kernel⟩
theorem sc_Year_cold : FnScope ["self", "week"] ["self", "week"] (defScope s_Year_cold) := ⟨rfl, rfl, rfl, by decide +kernel, rfl, by decide +kernel, by decide +kernel⟩
theorem sc_Year_copied : FnScope ["self", "other"] ["self"] (defScope s_Year_copied) := ⟨rfl, rfl, rfl, by decide +kernel, rfl, by decide +kernel, by decide +kernel⟩
theorem sc_need_row : FnScope ["row"] ["row"] (defScope s_need_row) := ⟨rfl, rfl, rfl, by decide +kernel, rfl, by decide +kernel, by decide +kernel⟩
theorem sc_need_rows : FnScope ["rows", "row"] ["rows"] (defScope s_need_rows) := ⟨rfl, rfl, rfl, by decide +kernel, rfl, by decide +kernel, by decide +kernel⟩
theorem sc_need_year : FnScope ["year"] ["year"] (defScope s_need_year) := ⟨rfl, rfl, rfl, by decide +kernel, rfl, by decide +kernel, by decide +kernel⟩
theorem sc_ripe_in : FnScope ["row", "year", "warm", "week"] ["row", "year"] (defScope s_ripe_in) := ⟨rfl, rfl, rfl, by decide +kernel, rfl, by decide +kernel, by decide +kernel⟩
theorem sc_last_in : FnScope ["row", "year", "ripe"] ["row", "year"] (defScope s_last_in) := ⟨rfl, rfl, rfl, by decide +kernel, rfl, by decide +kernel, by decide +kernel⟩
theorem sc_lost_in : FnScope ["row", "year", "last", "week"] ["row", "year"] (defScope s_lost_in) := ⟨rfl, rfl, rfl, by decide +kernel, rfl, by decide +kernel, by decide +kernel⟩
theorem sc_ready_in : FnScope ["row", "year", "ripe", "lost"] ["row", "year"] (defScope s_ready_in) := ⟨rfl, rfl, rfl, by decide +kernel, rfl, by decide +kernel, by decide +kernel⟩
theorem sc_ripe_week : FnScope ["row", "year"] ["row", "year"] (defScope s_ripe_week) := ⟨rfl, rfl, rfl, by decide +kernel, rfl, by decide +kernel, by decide +kernel⟩
theorem sc_last_stand : FnScope ["row", "year"] ["row", "year"] (defScope s_last_stand) := ⟨rfl, rfl, rfl, by decide +kernel, rfl, by decide +kernel, by decide +kernel⟩
theorem sc_lost_week : FnScope ["row", "year"] ["row", "year"] (defScope s_lost_week) := ⟨rfl, rfl, rfl, by decide +kernel, rfl, by decide +kernel, by decide +kernel⟩
theorem sc_ready : FnScope ["row", "year"] ["row", "year"] (defScope s_ready) := ⟨rfl, rfl, rfl, by decide +kernel, rfl, by decide +kernel, by decide +kernel⟩
theorem sc_state : FnScope ["row", "year", "week", "last", "lost", "ripe"] ["row", "year", "week"] (defScope s_state) := ⟨rfl, rfl, rfl, by decide +kernel, rfl, by decide +kernel, by decide +kernel⟩
theorem sc_week_heads : FnScope ["rows", "year", "found", "row", "pair", "week"] ["rows", "year"] (defScope s_week_heads) := ⟨rfl, rfl, rfl, by decide +kernel, rfl, by decide +kernel, by decide +kernel⟩
theorem sc_moved : FnScope ["rows", "year", "week", "warmth", "cold", "other", "found", "place", "row", "before", "behind"] ["rows", "year", "week", "warmth", "cold"] (defScope s_moved) := ⟨rfl, rfl, rfl, by decide +kernel, rfl, by decide +kernel, by decide +kernel⟩
theorem sc_are_rests : FnScope ["thing", "kin", "weeks"] ["thing"] (defScope s_are_rests) := ⟨rfl, rfl, rfl, by decide +kernel, rfl, by decide +kernel, by decide +kernel⟩
theorem sc_need_rests : FnScope ["thing"] ["thing"] (defScope s_need_rests) := ⟨rfl, rfl, rfl, by decide +kernel, rfl, by decide +kernel, by decide +kernel⟩
theorem sc_may_follow : FnScope ["stay", "other", "rests", "free"] ["stay", "other", "rests"] (defScope s_may_follow) := ⟨rfl, rfl, rfl, by decide +kernel, rfl, by decide +kernel, by decide +kernel⟩
theorem sc_Stay_init : FnScope ["self", "row", "last"] ["self", "row", "last"] (defScope s_Stay_init) := ⟨rfl, rfl, rfl, by decide +kernel, rfl, by decide +kernel, by decide +kernel⟩
theorem sc_Stay_first : FnScope ["self"] ["self"] (defScope s_Stay_first) := ⟨rfl, rfl, rfl, by decide +kernel, rfl, by decide +kernel, by decide +kernel⟩
theorem sc_Stay_last : FnScope ["self"] ["self"] (defScope s_Stay_last) := ⟨rfl, rfl, rfl, by decide +kernel, rfl, by decide +kernel, by decide +kernel⟩
theorem sc_Stay_kin : FnScope ["self"] ["self"] (defScope s_Stay_kin) := ⟨rfl, rfl, rfl, by decide +kernel, rfl, by decide +kernel, by decide +kernel⟩
theorem sc_Stay_behind : FnScope ["self", "other", "rests"] ["self", "other", "rests"] (defScope s_Stay_behind) := ⟨rfl, rfl, rfl, by decide +kernel, rfl, by decide +kernel, by decide +kernel⟩
theorem sc_l_cell : FnScope ["script", "k"] ["script", "k"] (defScope s_l_cell) := ⟨rfl, rfl, rfl, by decide +kernel, rfl, by decide +kernel, by decide +kernel⟩
theorem sc_l_box : FnScope ["cell"] ["cell"] (defScope s_l_box) := ⟨rfl, rfl, rfl, by decide +kernel, rfl, by decide +kernel, by decide +kernel⟩
theorem sc_l_take : FnScope ["box", "many", "digit", "one", "other"] ["box", "many"] (defScope s_l_take) := ⟨rfl, rfl, rfl, by decide +kernel, rfl, by decide +kernel, by decide +kernel⟩
theorem sc_l_names : FnScope ["box", "many", "letters", "way", "first", "words", "stem", "at", "long", "k"] ["box", "many"] (defScope s_l_names) := ⟨rfl, rfl, rfl, by decide +kernel, rfl, by decide +kernel, by decide +kernel⟩
theorem sc_l_weeks : FnScope ["box", "many", "most", "odds", "found", "k", "cold"] ["box"] (defScope s_l_weeks) := ⟨rfl, rfl, rfl, by decide +kernel, rfl, by decide +kernel, by decide +kernel⟩
theorem sc_l_ripe : FnScope ["row", "weeks", "needs", "keeps", "bears", "start", "week", "pair"] ["row", "weeks"] (defScope s_l_ripe) := ⟨rfl, rfl, rfl, by decide +kernel, rfl, by decide +kernel, by decide +kernel⟩
theorem sc_l_last : FnScope ["row", "weeks", "ripe"] ["row", "weeks"] (defScope s_l_last) := ⟨rfl, rfl, rfl, by decide +kernel, rfl, by decide +kernel, by decide +kernel⟩
theorem sc_l_lost : FnScope ["row", "weeks", "last", "some", "week"] ["row", "weeks"] (defScope s_l_lost) := ⟨rfl, rfl, rfl, by decide +kernel, rfl, by decide +kernel, by decide +kernel⟩
theorem sc_l_cut : FnScope ["row", "weeks", "ripe", "lost"] ["row", "weeks"] (defScope s_l_cut) := ⟨rfl, rfl, rfl, by decide +kernel, rfl, by decide +kernel, by decide +kernel⟩
theorem sc_l_numbers : FnScope ["box", "needs"] ["box"] (defScope s_l_numbers) := ⟨rfl, rfl, rfl, by decide +kernel, rfl, by decide +kernel, by decide +kernel⟩
theorem sc_l_scene : FnScope ["box", "weeks", "by", "sorts", "found", "k", "at", "week"] ["box", "weeks", "by"] (defScope s_l_scene) := ⟨rfl, rfl, rfl, by decide +kernel, rfl, by decide +kernel, by decide +kernel⟩
theorem sc_l_rows : FnScope ["cards", "names", "kins", "by", "found", "at", "numbers", "week", "heads", "one"] ["cards", "names", "kins", "by"] (defScope s_l_rows) := ⟨rfl, rfl, rfl, by decide +kernel, rfl, by decide +kernel, by decide +kernel⟩
theorem sc_l_later : FnScope ["thing", "by"] ["thing", "by"] (defScope s_l_later) := ⟨rfl, rfl, rfl, by decide +kernel, rfl, by decide +kernel, by decide +kernel⟩
theorem sc_l_told : FnScope ["rows", "year", "row"] ["rows", "year"] (defScope s_l_told) := ⟨rfl, rfl, rfl, by decide +kernel, rfl, by decide +kernel, by decide +kernel⟩
theorem sc_l_own : FnScope ["cards", "weeks", "found", "at", "numbers", "week", "heads", "one"] ["cards", "weeks"] (defScope s_l_own) := ⟨rfl, rfl, rfl, by decide +kernel, rfl, by decide +kernel, by decide +kernel⟩
theorem sc_l_states : FnScope ["rows", "year", "row", "week"] ["rows", "year"] (defScope s_l_states) := ⟨rfl, rfl, rfl, by decide +kernel, rfl, by decide +kernel, by decide +kernel⟩
theorem sc_l_stays_right : FnScope ["box", "first", "second", "kins", "by", "ends", "rest", "found", "rows", "kin", "more", "one", "other", "rests"] ["box", "first", "second", "kins", "by"] (defScope s_l_stays_right) := ⟨rfl, rfl, rfl, by decide +kernel, rfl, by decide +kernel, by decide +kernel⟩
theorem sc_l_right : FnScope ["box", "weeks", "by", "ahead", "cards", "names", "kins", "first", "second", "year", "other", "own", "week", "warmth", "cold", "found", "k", "told", "thing", "words", "at", "one", "two"] ["box"] (defScope s_l_right) := ⟨rfl, rfl, rfl, by decide +kernel, rfl, by decide +kernel, by decide +kernel⟩
theorem sc_law : FnScope ["script", "k"] ["script"] (defScope s_law) := ⟨rfl, rfl, rfl, by decide +kernel, rfl, by decide +kernel, by decide +kernel⟩
theorem ok_NoName_init {P : Program} {w : World} {K : PySem.W.Frag} {mg : Str → Option Value} {base : Heap} (T : Tx K mg) : FnOk P w K mg base CX0 2 (a_NoName_init K) (fdOf K (a_NoName_init K)) ["self", "found"] (spInit K (He.ga K "NoName")) :=
  FunD.ok T.f_NoName_init sc_NoName_init (fun vs H Q E h => spInit_len h) (fun cdv A outer s H vs Q E hr h => ⟨_, (pss_cons (ps_expr (pe_binit T.y_WeekError rfl (pa_cons (pv 0) (pa_cons pe_str pa_nil))))
 (pss_one (ps_ost (pv 0) (pv 1)))), init_plain h⟩)
theorem ok_NoNumber_init {P : Program} {w : World} {K : PySem.W.Frag} {mg : Str → Option Value} {base : Heap} (T : Tx K mg) : FnOk P w K mg base CX0 2 (a_NoNumber_init K) (fdOf K (a_NoNumber_init K)) ["self", "found"] (spInit K (He.ga K "NoNumber")) :=
  FunD.ok T.f_NoNumber_init sc_NoNumber_init (fun vs H Q E h => spInit_len h) (fun cdv A outer s H vs Q E hr h => ⟨_, (pss_cons (ps_expr (pe_binit T.y_WeekError rfl (pa_cons (pv 0) (pa_cons pe_str pa_nil))))
 (pss_one (ps_ost (pv 0) (pv 1)))), init_plain h⟩)
theorem ok_NoSort_init {P : Program} {w : World} {K : PySem.W.Frag} {mg : Str → Option Value} {base : Heap} (T : Tx K mg) : FnOk P w K mg base CX0 2 (a_NoSort_init K) (fdOf K (a_NoSort_init K)) ["self", "found"] (spInit K (He.ga K "NoSort")) :=
  FunD.ok T.f_NoSort_init sc_NoSort_init (fun vs H Q E h => spInit_len h) (fun cdv A outer s H vs Q E hr h => ⟨_, (pss_cons (ps_expr (pe_binit T.y_WeekError rfl (pa_cons (pv 0) (pa_cons pe_str pa_nil))))
 (pss_one (ps_ost (pv 0) (pv 1)))), init_plain h⟩)
theorem ok_NoYear_init {P : Program} {w : World} {K : PySem.W.Frag} {mg : Str → Option Value} {base : Heap} (T : Tx K mg) : FnOk P w K mg base CX0 2 (a_NoYear_init K) (fdOf K (a_NoYear_init K)) ["self", "found"] (spInit K (He.ga K "NoYear")) :=
  FunD.ok T.f_NoYear_init sc_NoYear_init (fun vs H Q E h => spInit_len h) (fun cdv A outer s H vs Q E hr h => ⟨_, (pss_cons (ps_expr (pe_binit T.y_WeekError rfl (pa_cons (pv 0) (pa_cons pe_str pa_nil))))
 (pss_one (ps_ost (pv 0) (pv 1)))), init_plain h⟩)
theorem ok_NoWeek_init {P : Program} {w : World} {K : PySem.W.Frag} {mg : Str → Option Value} {base : Heap} (T : Tx K mg) : FnOk P w K mg base CX0 2 (a_NoWeek_init K) (fdOf K (a_NoWeek_init K)) ["self", "found"] (spInit K (He.ga K "NoWeek")) :=
  FunD.ok T.f_NoWeek_init sc_NoWeek_init (fun vs H Q E h => spInit_len h) (fun cdv A outer s H vs Q E hr h => ⟨_, (pss_cons (ps_expr (pe_binit T.y_WeekError rfl (pa_cons (pv 0) (pa_cons pe_str pa_nil))))
 (pss_one (ps_ost (pv 0) (pv 1)))), init_plain h⟩)
theorem ok_NoRow_init {P : Program} {w : World} {K : PySem.W.Frag} {mg : Str → Option Value} {base : Heap} (T : Tx K mg) : FnOk P w K mg base CX0 2 (a_NoRow_init K) (fdOf K (a_NoRow_init K)) ["self", "found"] (spInit K (He.ga K "NoRow")) :=
  FunD.ok T.f_NoRow_init sc_NoRow_init (fun vs H Q E h => spInit_len h) (fun cdv A outer s H vs Q E hr h => ⟨_, (pss_cons (ps_expr (pe_binit T.y_WeekError rfl (pa_cons (pv 0) (pa_cons pe_str pa_nil))))
 (pss_one (ps_ost (pv 0) (pv 1)))), init_plain h⟩)
theorem ok_NoStay_init {P : Program} {w : World} {K : PySem.W.Frag} {mg : Str → Option Value} {base : Heap} (T : Tx K mg) : FnOk P w K mg base CX0 2 (a_NoStay_init K) (fdOf K (a_NoStay_init K)) ["self", "found"] (spInit K (He.ga K "NoStay")) :=
  FunD.ok T.f_NoStay_init sc_NoStay_init (fun vs H Q E h => spInit_len h) (fun cdv A outer s H vs Q E hr h => ⟨_, (pss_cons (ps_expr (pe_binit T.y_WeekError rfl (pa_cons (pv 0) (pa_cons pe_str pa_nil))))
 (pss_one (ps_ost (pv 0) (pv 1)))), init_plain h⟩)
theorem ok_NoRests_init {P : Program} {w : World} {K : PySem.W.Frag} {mg : Str → Option Value} {base : Heap} (T : Tx K mg) : FnOk P w K mg base CX0 2 (a_NoRests_init K) (fdOf K (a_NoRests_init K)) ["self", "found"] (spInit K (He.ga K "NoRests")) :=
  FunD.ok T.f_NoRests_init sc_NoRests_init (fun vs H Q E h => spInit_len h) (fun cdv A outer s H vs Q E hr h => ⟨_, (pss_cons (ps_expr (pe_binit T.y_WeekError rfl (pa_cons (pv 0) (pa_cons pe_str pa_nil))))
 (pss_one (ps_ost (pv 0) (pv 1)))), init_plain h⟩)
theorem ok_NoList_init {P : Program} {w : World} {K : PySem.W.Frag} {mg : Str → Option Value} {base : Heap} (T : Tx K mg) : FnOk P w K mg base CX0 2 (a_NoList_init K) (fdOf K (a_NoList_init K)) ["self", "found"] (spInit K (He.ga K "NoList")) :=
  FunD.ok T.f_NoList_init sc_NoList_init (fun vs H Q E h => spInit_len h) (fun cdv A outer s H vs Q E hr h => ⟨_, (pss_cons (ps_expr (pe_binit T.y_WeekError rfl (pa_cons (pv 0) (pa_cons pe_str pa_nil))))
 (pss_one (ps_ost (pv 0) (pv 1)))), init_plain h⟩)
end Wk
set_option maxRecDepth 100000
set_option maxHeartbeats 0
namespace Wk
open PySem PySem.Spec PyProof.Rows L2
def ln0 : List Str := ["_wall", "WeekError", "NoName", "NoNumber", "NoSort", "NoYear", "NoWeek", "NoRow", "NoStay", "NoRests", "NoList", "LETTERS", "LONGEST", "is_whole", "is_name", "two_figures", "MOST_NEEDS", "MOST_KEEPS", "COLD", "need_name", "need_number", "Sort", "LAST_WEEK_rows", "MOST_HEADS", "Row", "MOST_WEEKS", "MOST_WARMTH", "MOST_COLD", "is_warmth", "is_cold"]
def ln1 : List Str := ["is_pair", "Year", "MOST_ROWS", "need_row", "need_rows", "need_year", "ripe_in", "last_in", "lost_in", "ready_in", "ripe_week", "last_stand", "lost_week", "ready", "state", "week_heads", "moved", "LAST_WEEK_stays", "MOST_KINS", "MOST_REST", "are_rests", "need_rests", "may_follow", "Stay", "_law_cell", "_law_box", "_law_take", "_law_names", "_law_weeks", "_law_ripe"]
def ln2 : List Str := ["_law_last", "_law_lost", "_law_cut", "_law_numbers", "_law_scene", "_law_rows", "_law_later", "_law_told", "_law_own", "_law_states", "_law_stays_right", "_law_right"]
def loose : List Str := ln0 ++ ln1 ++ ln2
abbrev Rw : PySem.W.OpenRow := PySem.W.OpenLaw.row PySem.Challenge.rw_weekheads_k27_whole_later_and_called_oth
abbrev hk : PySem.W.Hook := WA.hookX cs fx fn
def ob (s : PySem.W.SharedT) : WA.AlX := WA.obsXG cs fx fn (HandSHeadRun.getT s)
theorem ob_eq (s : PySem.W.SharedT) : ob s = hk.obs s.abs := WA.obsXG_eq (HandSHeadRun.getT_eq s)
theorem run (w : World) : HandSHeadRun.RunEq Rw (PySem.W.view Rw.prog [80]) hk ob 20000 loose w := by
  intro os
  kernel_rfl
end Wk
section
open PySem PySem.W PySem.Calls PyProof.Rows
set_option maxRecDepth 100000 in
set_option maxHeartbeats 0 in
theorem Wk.lawFin (HC : ∀ {q : Program} {loose : List Str} {XP : (Str → Option Value) → Heap → Prop} {d : DefRec}, d.params.defaults = [] → d.name = "law" → PySem.W.WalkO q loose XP Wk.hk.says (PySem.W.OpenLaw.row PySem.Challenge.rw_weekheads_k27_whole_later_and_called_oth).toRowW d [] (fun f vs => PySem.call f vs)) : PySem.Challenge.rw_weekheads_k27_whole_later_and_called_oth.Holds := by
  w_on; o_law
  refine HandSHeadRun.head_any (r := OpenLaw.row PySem.Challenge.rw_weekheads_k27_whole_later_and_called_oth) (q := view (OpenLaw.row PySem.Challenge.rw_weekheads_k27_whole_later_and_called_oth).prog [80]) (H := Wk.hk) (ob := Wk.ob) (M := 20000) (loose := Wk.loose) (d := HandSHeadRun.topDef (OpenLaw.row PySem.Challenge.rw_weekheads_k27_whole_later_and_called_oth).prog 80) (kwd := []) Wk.ob_eq
    (by kernel_rfl) (fun s => by kernel_rfl) Wk.run (by kernel_rfl) (by kernel_rfl) (by kernel_rfl) (by rfl) (by first | assumption | decide +kernel) (by decide +kernel) ⟨rfl, rfl, rfl, rfl, rfl, by decide +kernel⟩ ?hw ?hc
  case hw => w_witness2
  case hc => exact HC (by kernel_rfl) (by kernel_rfl)
end
set_option maxRecDepth 100000
set_option maxHeartbeats 4000000
namespace Wk
open PySem PySem.Spec PyProof.Rows L2
local macro_rules | `(tactic| wtm_at "mem") => `(tactic| fail)
local macro_rules | `(tactic| wtm_at "mem") => `(tactic| first
  | exact List.mem_cons_self ..
  | exact List.mem_cons_of_mem _ (List.mem_cons_self ..)
  | exact List.mem_cons_of_mem _ (List.mem_cons_of_mem _ (List.mem_cons_self ..))
  | exact List.mem_cons_of_mem _ (List.mem_cons_of_mem _ (List.mem_cons_of_mem _ (List.mem_cons_self ..)))
  | exact List.mem_cons_of_mem _ (List.mem_cons_of_mem _ (List.mem_cons_of_mem _ (List.mem_cons_of_mem _ (List.mem_cons_self ..)))))
local macro_rules | `(tactic| wtm_at "dat") => `(tactic| fail)
local macro_rules | `(tactic| wtm_at "dat") => `(tactic| first
  | assumption
  | (refine Ex.of ?_ (by assumption); wtm_at "dat"))
local macro_rules | `(tactic| wtm_at "ex") => `(tactic| fail)
local macro_rules | `(tactic| wtm_at "ex") => `(tactic| first
  | assumption
  | exact Ex.refl _
  | (refine Ex.trans ?_ (by assumption); wtm_at "ex"))
local macro_rules | `(tactic| wtm_at "hp") => `(tactic| fail)
local macro_rules | `(tactic| wtm_at "hp") => `(tactic| first
  | assumption
  | exact HI.get (by assumption) (by wtm_at "mem")
  | exact HI.dat (by assumption) (by wtm_at "dat"))
local macro_rules | `(tactic| wtm_at "hi") => `(tactic| fail)
local macro_rules | `(tactic| wtm_at "hi") => `(tactic| first
  | assumption
  | exact HI.swap (by assumption)
  | exact HI.up2 (by assumption)
  | exact HI.up3 (by assumption))
local macro_rules | `(tactic| wtm_at "num") => `(tactic| fail)
local macro_rules | `(tactic| wtm_at "num") => `(tactic| first
  | omega
  | decide
  | exact ⟨by decide, by decide⟩
  | exact cdiv_of (by omega) (by omega)
  | exact ⟨by omega, by omega⟩
  | (refine ⟨by omega, by omega, ?_⟩; omega)
  | exact Or.inl ⟨by omega, by omega⟩
  | exact Or.inr ⟨by omega, by omega⟩)
local macro_rules | `(tactic| wtm_at "kn") => `(tactic| fail)
local macro_rules | `(tactic| wtm_at "kn") => `(tactic| first
  | assumption
  | exact Kn.int _
  | exact Kn.str _
  | exact Kn.bl _
  | exact Kn.non
  | exact HI.kn (by assumption) (by assumption)
  | exact HI.kn (by assumption) (Kn.mono (by assumption) (by assumption))
  | exact Kn.lst (by wtm_at "hp")
  | exact Kn.tup (by wtm_at "hp")
  | exact Kn.dict (by wtm_at "hp"))
local macro_rules | `(tactic| wtm_at "s1x0") => `(tactic| fail)
local macro_rules | `(tactic| wtm_at "s1x0") => `(tactic| first
  | with_reducible refine st_seq ?_
  | with_reducible refine st_asg ?_
  | with_reducible refine st_ret ?_
  | with_reducible refine st_if ?_
  | with_reducible refine st_drop ?_
  | with_reducible refine st_next ?_
  | with_reducible refine st_brk ?_
  | with_reducible refine st_cont ?_
  | with_reducible refine sg_name ?_
  | with_reducible refine sg_sub ?_
  | with_reducible refine sg_nil ?_
  | with_reducible refine sg_cons ?_)
local macro_rules | `(tactic| wtm_at "s1x1") => `(tactic| fail)
local macro_rules | `(tactic| wtm_at "s1x1") => `(tactic| first
  | ((with_reducible refine' sg_tup ?e1 ?e2 ?_); (case e1 => exact SqT.of (by wtm_at "hp")); (case e2 => rfl))
  | ((with_reducible refine' se_var ?e1 ?_); (case e1 => rfl))
  | with_reducible refine se_c ?_
  | with_reducible refine se_op ?_
  | with_reducible refine se_un ?_
  | with_reducible refine se_tup ?_
  | with_reducible refine se_lst ?_
  | with_reducible refine se_lstM ?_
  | with_reducible refine st_for ?_
  | with_reducible refine se_lc ?_
  | with_reducible refine it_rng1 ?_
  | with_reducible refine it_rng2 ?_)
local macro_rules | `(tactic| wtm_at "s1x2") => `(tactic| fail)
local macro_rules | `(tactic| wtm_at "s1x2") => `(tactic| first
  | with_reducible refine it_list ?_
  | with_reducible refine it_str ?_
  | with_reducible refine strI_mk ?_
  | ((with_reducible refine' list_mk ?e1 ?_); (case e1 => wtm_at "hp"))
  | ((with_reducible refine' rng1_mk ?e1 ?e2 ?_); (case e1 => omega); (case e2 => omega))
  | ((with_reducible refine' rng2_mk ?e1 ?_); (case e1 => omega))
  | with_reducible refine st_yes ?_
  | ((with_reducible refine' al_D ?e1 ?_); (case e1 => assumption); intro _ _ _ _ _ _)
  | ((with_reducible refine' al_M ?e1 ?_); (case e1 => assumption); intro _ _ _)
  | ((with_reducible refine' and_on ?e1 ?_); (case e1 => first | exact small_ok (Nat.le_of_ble_eq_true rfl) | rfl | omega))
  | with_reducible refine sa_nil ?_
  | with_reducible refine sa_cons ?_)
local macro_rules | `(tactic| wtm_at "s1x3") => `(tactic| fail)
local macro_rules | `(tactic| wtm_at "s1x3") => `(tactic| first
  | with_reducible refine se_cb ?_
  | with_reducible refine se_if ?_
  | with_reducible refine st_test ?_
  | with_reducible refine st_B ?_
  | with_reducible refine st_bl ?_
  | with_reducible refine st_and ?_
  | with_reducible refine st_or ?_
  | with_reducible refine st_not ?_
  | with_reducible refine ri0_mk ?_
  | with_reducible refine ru_mk ?_
  | ((with_reducible refine' ri_mk ?e1 ?_); (case e1 => wtm_at "num"))
  | with_reducible refine RAdd.int ?_)
local macro_rules | `(tactic| wtm_at "s1x4") => `(tactic| fail)
local macro_rules | `(tactic| wtm_at "s1x4") => `(tactic| first
  | ((with_reducible refine' RMul.int ?e1 ?_); (case e1 => wtm_at "num"))
  | with_reducible refine req_int ?_
  | with_reducible refine rne_int ?_
  | with_reducible refine req_str ?_
  | with_reducible refine rne_str ?_
  | ((with_reducible refine' RIx.l ?e1 ?e2 ?_); (case e1 => wtm_at "hp"); (case e2 => rfl))
  | ((with_reducible refine' set_c ?e1 ?e2 ?_); (case e1 => assumption); (case e2 => rfl); intro _ _)
  | ((with_reducible refine' set_c2 ?e1 ?e2 ?_); (case e1 => assumption); (case e2 => rfl); intro _ _)
  | ((with_reducible refine' set_c3 ?e1 ?e2 ?_); (case e1 => assumption); (case e2 => rfl); intro _ _)
  | with_reducible refine iteT ?_
  | with_reducible refine iteF ?_
  | ((with_reducible refine' if_yes ?e1 ?_); (case e1 => omega)))
local macro_rules | `(tactic| wtm_at "s1x5") => `(tactic| fail)
local macro_rules | `(tactic| wtm_at "s1x5") => `(tactic| first
  | ((with_reducible refine' if_no ?e1 ?_); (case e1 => omega))
  | ((with_reducible refine' if_yesN ?e1 ?_); (case e1 => omega))
  | ((with_reducible refine' if_noN ?e1 ?_); (case e1 => omega))
  | ((with_reducible refine' RIx.t ?e1 ?e2 ?_); (case e1 => wtm_at "hp"); (case e2 => rfl))
  | with_reducible refine se_andV ?_
  | with_reducible refine se_orV ?_
  | with_reducible refine se_notV ?_
  | with_reducible refine se_chain ?_
  | with_reducible refine se_sl ?_
  | with_reducible refine so_none ?_
  | with_reducible refine so_some ?_
  | with_reducible refine so_int ?_)
local macro_rules | `(tactic| wtm_at "s1x6") => `(tactic| fail)
local macro_rules | `(tactic| wtm_at "s1x6") => `(tactic| first
  | with_reducible refine se_m1 ?_
  | with_reducible refine se_m0 ?_
  | with_reducible refine m_str ?_
  | with_reducible refine se_mkE ?_
  | ((with_reducible refine' mkE_now ?e1 ?_); (case e1 => assumption); intro _ _ _ _ _ _ _ _)
  | with_reducible refine st_raiseX ?_
  | ((with_reducible refine' mkX_now ?e1 ?_); (case e1 => assumption); intro _ _ _ _ _ _)
  | with_reducible refine st_par ?_
  | with_reducible refine par_mk ?_
  | ((with_reducible refine' st_aug ?e1 ?_); (case e1 => rfl))
  | ((with_reducible refine' RIsi.ty ?e1 ?e2 ?_); (case e1 => wtm_at "kn"); (case e2 => decide))
  | with_reducible refine ris_non ?_)
local macro_rules | `(tactic| wtm_at "s1x7") => `(tactic| fail)
local macro_rules | `(tactic| wtm_at "s1x7") => `(tactic| first
  | with_reducible refine ris_nonN ?_
  | with_reducible refine ris_bl ?_
  | with_reducible refine ris_blN ?_
  | with_reducible refine rin_sign ?_
  | with_reducible refine rni_sign ?_
  | ((with_reducible refine' RLen.str ?e1 ?_); (case e1 => first | exact small_ok (by omega) | exact small_ok (Nat.le_of_ble_eq_true rfl)))
  | ((with_reducible refine' RLen.lst ?e1 ?_); (case e1 => wtm_at "hp"))
  | ((with_reducible refine' RLen.frz ?e1 ?_); (case e1 => wtm_at "hp"))
  | ((with_reducible refine' RLen.tup ?e1 ?_); (case e1 => wtm_at "hp"))
  | (with_reducible refine RMx.mk ?_; intro _ _ _ _)
  | (with_reducible refine RMn.mk ?_; intro _ _ _ _)
  | with_reducible refine RStarts.mk ?_)
local macro_rules | `(tactic| wtm_at "s1x8") => `(tactic| fail)
local macro_rules | `(tactic| wtm_at "s1x8") => `(tactic| first
  | with_reducible refine RFind.mk ?_
  | with_reducible refine RInt.bl ?_
  | ((with_reducible refine' RAll.mk ?e1 ?_); (case e1 => wtm_at "hp")))
local macro_rules | `(tactic| wtm_at "s1") => `(tactic| fail)
local macro_rules | `(tactic| wtm_at "s1") => `(tactic| first
  | wtm_at "s1x0"
  | wtm_at "s1x1"
  | wtm_at "s1x2"
  | wtm_at "s1x3"
  | wtm_at "s1x4"
  | wtm_at "s1x5"
  | wtm_at "s1x6"
  | wtm_at "s1x7"
  | wtm_at "s1x8")
local macro_rules | `(tactic| wtm_at "sx") => `(tactic| fail)
local macro_rules | `(tactic| wtm_at "sx") => `(tactic| repeat (wtm_at "s1"; try dsimp only [List.set, Int.reduceToNat]))
local macro_rules | `(tactic| wtm_at "go") => `(tactic| fail)
local macro_rules | `(tactic| wtm_at "go") => `(tactic| (dsimp only [cxOf, L2.start, List.map, List.length, List.replicate, Nat.reduceAdd, Nat.reduceSub, List.replicate, HAppend.hAppend, Append.append, List.append]; wtm_at "sx"))
local macro_rules | `(tactic| wtm_at "sxm") => `(tactic| fail)
local macro_rules | `(tactic| wtm_at "sxm") => `(tactic| repeat (first | ((with_reducible refine' mod_let ?e1 ?_); (case e1 => omega); intro _ _ _) | wtm_at "s1"; try dsimp only [List.set, Int.reduceToNat]))
local macro_rules | `(tactic| wtm_at "go0") => `(tactic| fail)
local macro_rules | `(tactic| wtm_at "go0") => `(tactic| dsimp only [cxOf, L2.start, List.map, List.length, List.replicate, Nat.reduceAdd, Nat.reduceSub, List.replicate, HAppend.hAppend, Append.append, List.append])
/-- the three numbers of a box, drawn at most n times -/
structure BoxOk (n : Nat) (x y z : Int) : Prop where
  x0 : 0 ≤ x
  y0 : 0 ≤ y
  y1 : y < 2147483629
  z0 : 0 ≤ z
  z1 : z ≤ n
abbrev bx (x y z : Int) : HO := .lst [.int x, .int y, .int z]
/-- a draw: below many, the box drawn once more -/
def spTake : Sp := fun vs H Q _ => ∃ (b : Addr) (m : Int) (R : List (Addr × HO)) (D : Hp) (x y z : Int) (n : Nat), vs = [.ref b, .int m] ∧ 0 < m ∧ m < 2 ^ 100 ∧ HI H ((b, bx x y z) :: R) D ∧ BoxOk n x y z ∧ n < 1000000 ∧
  ∀ r x' y' z' H', HI H' ((b, bx x' y' z') :: R) D → BoxOk (n + 1) x' y' z' → 0 ≤ r → r < m → Q (.int r) H'
theorem take_now {b : Addr} {m : Int} {R : List (Addr × HO)} {D H : Hp} {x y z : Int} {n : Nat} {Q : VK} {E : XK} (hi : HI H ((b, bx x y z) :: R) D) (m0 : 0 < m) (m1 : m < 2 ^ 100) (hb : BoxOk n x y z) (hn : n < 1000000)
    (k : ∀ r x' y' z' H', HI H' ((b, bx x' y' z') :: R) D → BoxOk (n + 1) x' y' z' → 0 ≤ r → r < m → Q (.int r) H') : spTake ([V.ref b, V.int m] ++ []) H Q E := ⟨b, m, R, D, x, y, z, n, rfl, m0, m1, hi, hb, hn, k⟩
set_option maxHeartbeats 400000 in
theorem ok_l_take {P : Program} {w : World} {K : PySem.W.Frag} {mg : Str → Option Value} {base : Heap} (T : Tx K mg) : FnG P w K mg base 1 (a_l_take K) ["box", "many"] spTake := by
  refine T.f_l_take.ok sc_l_take (fun vs H Q E h => ?_) (fun cdv A outer s H vs Q E hgu hr h => ⟨_, (pss_cons (ps_if (pt_cmpR op_gt (pe_ix ix_U (pv 0) pe_int (fun _ _ => rfl)) pe_int (nomark _)) (pss_cons (ps_set (i := 2) sc_l_take.nd rfl (Or.inl rfl) (pe_op op_mod (pe_ix ix_U (pv 0) pe_int (fun _ _ => rfl)) (pv 1)))
 (pss_cons (ps_asg (pe_op op_fdivW (pe_ix ix_U (pv 0) pe_int (fun _ _ => rfl)) (pv 1)) (pg_sub (pv 0) pe_int set_list))
 (pss_one (ps_ret (pv 2))))) pss_nil)
 (pss_cons (ps_asg (pe_op op_addU (pe_ix ix_U (pv 0) pe_int (fun _ _ => rfl)) pe_int) (pg_sub (pv 0) pe_int set_list))
 (pss_cons (ps_set (i := 3) sc_l_take.nd rfl (Or.inl rfl) (pe_op op_mod (pe_op op_pow (pe_op op_addU (pe_op op_addU (pe_ix ix_U (pv 0) pe_int (fun _ _ => rfl)) (pe_op op_mulU pe_int (pe_ix ix_U (pv 0) pe_int (fun _ _ => rfl)))) pe_int) pe_int) pe_int))
 (pss_cons (ps_set (i := 4) sc_l_take.nd rfl (Or.inl rfl) (pe_op op_mod (pe_op op_pow (pe_op op_addU (pe_op op_addU (pe_op op_fdivW (pv 3) pe_int) (pe_op op_mulU (pe_op op_mulU pe_int (pe_ix ix_U (pv 0) pe_int (fun _ _ => rfl))) (pe_ix ix_U (pv 0) pe_int (fun _ _ => rfl)))) pe_int) pe_int) pe_int))
 (pss_one (ps_ret (pe_op op_mod (pe_op op_addU (pe_op op_fdivW (pv 3) pe_int) (pe_op op_mulU pe_int (pe_op op_fdivW (pv 4) pe_int))) (pv 1)))))))), ?_⟩)
  · obtain ⟨b, m, R, D, x, y, z, n, rfl, _⟩ := h
    rfl
  · obtain ⟨b, m, R, D, x, y, z, n, rfl, m0, m1, hi, hb, hn, k⟩ := h
    obtain ⟨x0, y0, y1, z0, z1⟩ := hb
    wtm_at "go"
    refine if_dec (fun h => ?_) (fun h => ?_)
    · wtm_at "sx"
      exact k _ _ _ _ _ (by assumption) ⟨Int.ediv_nonneg x0 (by omega), y0, y1, z0, by omega⟩ (Int.emod_nonneg _ (by omega)) (Int.emod_lt_of_pos _ m0)
    · wtm_at "sxm"
      refine ri_mk ⟨by decide, by decide, pow_ok (by omega) (by omega) (by omega) (by omega) (by omega) (by omega) (by omega) (by omega)⟩ ?_
      wtm_at "sxm"
      exact k _ _ _ _ _ (by assumption) ⟨x0, y0, y1, by omega, by omega⟩ (by assumption) (by assumption)
theorem take_more {α : Type} : ∀ {l : List α} {i : Nat} {x : α}, l[i]? = some x → l.take (i + 1) = l.take i ++ [x]
  | [], i, x, h => by simp at h
  | a :: l, 0, x, h => by
    have e : a = x := Option.some.inj h
    subst e
    rfl
  | a :: l, i + 1, x, h => by
    have ih := take_more (l := l) (i := i) (x := x) h
    show a :: l.take (i + 1) = a :: l.take i ++ [x]
    rw [ih]
    rfl
theorem cps_get {z : Str} {i c : Nat} (h : z.cps[i]? = some c) : z.cps.toList[i]? = some c := by
  rw [← h]
  simp
theorem cps_len {z : Str} : z.cps.toList.length = z.length := rfl
def spCell : Sp := fun vs H Q _ => ∃ (l : Addr) (o : Obj) (k : Int) (ns : List Int) (R : Cells) (D : Hp), vs = [.ref l, .int k] ∧ HI H R D ∧ D l = some (.frz o (.lst (ns.map V.int))) ∧ 0 ≤ k ∧ k < 1000 ∧ ∀ c H', HI H' R D → Q (.int c) H'
def spBox : Sp := fun vs H Q _ => ∃ (c : Int) (R : Cells) (D : Hp), vs = [.int c] ∧ HI H R D ∧ ∀ b x y H', HI H' ((b, bx x y 0) :: R) D → BoxOk 0 x y 0 → Q (.ref b) H'
set_option maxHeartbeats 400000 in
theorem ok_l_cell {P : Program} {w : World} {K : PySem.W.Frag} {mg : Str → Option Value} {base : Heap} (T : Tx K mg) : FnG P w K mg base 1 (a_l_cell K) ["script", "k"] spCell := by
  refine T.f_l_cell.ok sc_l_cell (fun vs H Q E h => ?_) (fun cdv A outer s H vs Q E hgu hr h => ⟨_, (pss_cons (ps_if (pt_cmpR op_lt (pv 1) (pe_callB (call_lenU) (by rfl) T.n_len boot_len (pa_cons (pv 0) pa_nil)) (nomark _)) (pss_one (ps_ret (pe_ix ix_U (pv 0) (pv 1) (fun _ _ => rfl)))) pss_nil)
 (pss_one (ps_ret (pe_op op_addU (pe_op op_mulU pe_int (pv 1)) pe_int)))), ?_⟩)
  · obtain ⟨l, o, k, ns, R, D, rfl, _⟩ := h
    rfl
  · obtain ⟨l, o, k, ns, R, D, rfl, hi, hl, k0, k1, go⟩ := h
    wtm_at "go"
    refine if_dec (fun h => ?_) (fun h => ?_)
    · wtm_at "sx"
      rw [List.length_map] at h
      obtain ⟨j, rfl⟩ := Int.eq_ofNat_of_zero_le k0
      have hj : j < ns.length := by omega
      refine RIx.f (by wtm_at "hp") (atI_map (List.getElem?_eq_getElem hj)) ?_
      exact go _ _ (by assumption)
    · wtm_at "sx"
      exact go _ _ (by assumption)
set_option maxHeartbeats 400000 in
theorem ok_l_box {P : Program} {w : World} {K : PySem.W.Frag} {mg : Str → Option Value} {base : Heap} (T : Tx K mg) : FnG P w K mg base 1 (a_l_box K) ["cell"] spBox := by
  refine T.f_l_box.ok sc_l_box (fun vs H Q E h => ?_) (fun cdv A outer s H vs Q E hgu hr h => ⟨_, (pss_one (ps_ret (pe_lstM (pa_cons (pe_callB (call_maxU rfl) (by rfl) T.n_max boot_max (pa_cons pe_int (pa_cons (pe_op op_sub (pv 0) (pe_op op_pow pe_int pe_int)) pa_nil))) (pa_cons (pe_op op_mod (pv 0) pe_int) (pa_cons pe_int pa_nil)))))), ?_⟩)
  · obtain ⟨c, R, D, rfl, _⟩ := h
    rfl
  · obtain ⟨c, R, D, rfl, hi, go⟩ := h
    wtm_at "go"
    wtm_at "sxm"
    exact go _ _ _ _ (by assumption) ⟨by omega, by omega, by omega, by omega, by omega⟩
theorem cell_now {l : Addr} {o : Obj} {k : Int} {ns : List Int} {R : Cells} {D H : Hp} {Q : VK} {E : XK} (hi : HI H R D) (hl : D l = some (.frz o (.lst (ns.map V.int)))) (k0 : 0 ≤ k) (k1 : k < 1000) (q : ∀ c H', HI H' R D → Q (.int c) H') : spCell ([V.ref l, V.int k] ++ []) H Q E := ⟨l, o, k, ns, R, D, rfl, hi, hl, k0, k1, q⟩
theorem box_now {c : Int} {R : Cells} {D H : Hp} {Q : VK} {E : XK} (hi : HI H R D) (q : ∀ b x y H', HI H' ((b, bx x y 0) :: R) D → BoxOk 0 x y 0 → Q (.ref b) H') : spBox ([V.int c] ++ []) H Q E := ⟨c, R, D, rfl, hi, q⟩
local macro_rules | `(tactic| wtm_at "s2") => `(tactic| fail)
local macro_rules | `(tactic| wtm_at "s2") => `(tactic| first
  | wtm_at "s1"
  | with_reducible refine se_call1 ?_
  | with_reducible refine se_callN ?_
  | with_reducible refine se_dnewK ?_
  | ((with_reducible refine' se_disp ?e1 ?_); (case e1 => assumption); intro _ _ _)
  | with_reducible refine sp_cons ?_
  | with_reducible refine sp_nil ?_
  | ((with_reducible refine' disp_now ?e1 ?e2 ?e3 ?_); (case e1 => assumption); (case e2 => rfl); (case e3 => exact Nat.le_of_ble_eq_true rfl); intro _ _ _ _ _)
  | ((with_reducible refine' RAdd.lst ?e1 ?e2 ?e3 ?_); (case e1 => wtm_at "hp"); (case e2 => wtm_at "hp"); (case e3 => exact small_ok (Nat.le_of_ble_eq_true rfl)))
  | ((with_reducible refine' RMul.lst ?e1 ?e2 ?e3 ?e4 ?_); (case e1 => wtm_at "hp"); (case e2 => omega); (case e3 => omega); (case e4 => exact small_ok (Nat.le_of_ble_eq_true rfl)))
  | ((with_reducible refine' RStr.int ?e1 ?_); (case e1 => exact log2_small (by omega)))
  | ((with_reducible refine' RSl.str ?e1 ?_); (case e1 => first | exact small_ok (by omega) | exact small_ok (Nat.le_of_ble_eq_true rfl)))
  | ((with_reducible refine' RAdd.str ?e1 ?_); (case e1 => exact small_ok (by omega)))
  | ((with_reducible refine' take_now ?e1 ?e2 ?e3 ?e4 ?e5 ?_); (case e1 => wtm_at "hi"); (case e2 => omega); (case e3 => omega); (case e4 => assumption); (case e5 => omega); intro _ _ _ _ _ _ _ _ _))
local macro_rules | `(tactic| wtm_at "sy") => `(tactic| fail)
local macro_rules | `(tactic| wtm_at "sy") => `(tactic| repeat (wtm_at "s2"; try dsimp only [List.set, Int.reduceToNat]))
local macro_rules | `(tactic| wtm_at "sz1") => `(tactic| fail)
local macro_rules | `(tactic| wtm_at "sz1") => `(tactic| first
  | ((with_reducible refine' rsl_some ?e1 ?e2 ?_); (case e1 => omega); (case e2 => assumption); intro _ _ _)
  | ((with_reducible refine' radd_some ?e1 ?e2 ?e3 ?_); (case e1 => omega); (case e2 => assumption); (case e3 => assumption); intro _ _ _)
  | ((with_reducible refine' rmul_some ?e1 ?e3 ?e4 ?e5 ?_); (case e1 => rfl); (case e3 => omega); (case e4 => omega); (case e5 => exact sg_of rfl); intro _ _ _)
  | wtm_at "s2")
local macro_rules | `(tactic| wtm_at "sz") => `(tactic| fail)
local macro_rules | `(tactic| wtm_at "sz") => `(tactic| repeat (wtm_at "sz1"; try dsimp only [List.set, Int.reduceToNat]))
local macro_rules | `(tactic| wtm_at "s3x1") => `(tactic| fail)
local macro_rules | `(tactic| wtm_at "s3x1") => `(tactic| first
  | with_reducible refine se_fld ?_
  | with_reducible refine st_fld ?_
  | ((with_reducible refine' fld_mk ?e1 ?e2 ?e3 ?e4 ?_); (case e1 => wtm_at "hp"); (case e2 => assumption); (case e3 => wtm_at "mem"); (case e4 => rfl))
  | ((with_reducible refine' sfld_now ?e1 ?e2 ?e3 ?e4 ?_); (case e1 => wtm_at "hi"); (case e2 => assumption); (case e3 => wtm_at "mem"); (case e4 => exact Nat.lt_of_lt_of_le (Nat.lt_succ_self _) (Nat.le_of_ble_eq_true rfl)); intro _ _)
  | with_reducible refine se_meth ?_
  | with_reducible refine se_methN ?_
  | ((with_reducible refine' meth_mk ?e1 ?e2 ?_); (case e1 => wtm_at "hp"); (case e2 => rfl))
  | with_reducible refine se_make ?_
  | with_reducible refine se_makeN ?_
  | ((with_reducible refine' make_now ?e1 ?_); (case e1 => assumption); intro _ _ _ _)
  | with_reducible refine se_fmt ?_
  | ((with_reducible refine' RFmt.str ?e1 ?_); (case e1 => omega)))
local macro_rules | `(tactic| wtm_at "s3x2") => `(tactic| fail)
local macro_rules | `(tactic| wtm_at "s3x2") => `(tactic| first
  | ((with_reducible refine' RFmt.int ?e1 ?_); (case e1 => exact log2_small (by omega)))
  | with_reducible refine sj_nil ?_
  | with_reducible refine sj_cons ?_
  | ((with_reducible refine' js_mk ?e1 ?_); (case e1 => omega))
  | ((with_reducible refine' and_on ?e1 ?_); (case e1 => exact small_ok (by simp only [len_app]; omega))))
local macro_rules | `(tactic| wtm_at "s3") => `(tactic| fail)
local macro_rules | `(tactic| wtm_at "s3") => `(tactic| first
  | wtm_at "s2"
  | wtm_at "s3x1"
  | wtm_at "s3x2")
local macro_rules | `(tactic| wtm_at "sc") => `(tactic| fail)
local macro_rules | `(tactic| wtm_at "sc") => `(tactic| repeat (wtm_at "s3"; try dsimp only [List.set, Int.reduceToNat]))
local macro_rules | `(tactic| wtm_at "s4") => `(tactic| fail)
local macro_rules | `(tactic| wtm_at "s4") => `(tactic| first
  | wtm_at "s3"
  | with_reducible refine se_bm ?_
  | with_reducible refine se_bm0 ?_
  | ((with_reducible refine' bm_ty ?e1 ?_); (case e1 => wtm_at "hp"))
  | ((with_reducible refine' app_now ?e1 ?e2 ?_); (case e1 => wtm_at "hi"); (case e2 => first | omega | exact Nat.lt_of_lt_of_le (Nat.lt_succ_self _) (Nat.le_of_ble_eq_true rfl)); intro _ _))
local macro_rules | `(tactic| wtm_at "sd") => `(tactic| fail)
local macro_rules | `(tactic| wtm_at "sd") => `(tactic| repeat (wtm_at "s4"; try dsimp only [List.set, Int.reduceToNat]))
local macro_rules | `(tactic| wtm_at "s5x0") => `(tactic| fail)
local macro_rules | `(tactic| wtm_at "s5x0") => `(tactic| first
  | with_reducible refine rne_same ?_
  | with_reducible refine req_same ?_)
local macro_rules | `(tactic| wtm_at "s5x2") => `(tactic| fail)
local macro_rules | `(tactic| wtm_at "s5x2") => `(tactic| first
  | ((with_reducible refine' if_kT ?e1 ?_); (case e1 => first | assumption | rfl))
  | ((with_reducible refine' if_kF ?e1 ?_); (case e1 => first | assumption | rfl))
  | ((with_reducible refine' if_nkT ?e1 ?_); (case e1 => first | assumption | rfl))
  | ((with_reducible refine' if_nkF ?e1 ?_); (case e1 => first | assumption | rfl))
  | ((with_reducible refine' if_tagF ?e1 ?_); (case e1 => rfl))
  | ((with_reducible refine' if_tagN ?e1 ?_); (case e1 => rfl))
  | ((with_reducible refine' if_yes ?e1 ?_); (case e1 => with_reducible rfl))
  | ((with_reducible refine' if_yesN ?e1 ?_); (case e1 => with_reducible rfl))
  | with_reducible refine if_notT ?_
  | with_reducible refine if_notF ?_
  | with_reducible refine it_zip ?_
  | with_reducible refine it_enum ?_)
local macro_rules | `(tactic| wtm_at "s5x3") => `(tactic| fail)
local macro_rules | `(tactic| wtm_at "s5x3") => `(tactic| first
  | with_reducible refine it_tup ?_
  | ((with_reducible refine' zip_mk ?e1 ?e2 ?_); (case e1 => wtm_at "hp"); (case e2 => wtm_at "hp"))
  | ((with_reducible refine' enum_mk ?e1 ?_); (case e1 => wtm_at "hp"))
  | ((with_reducible refine' tupI_mk ?e1 ?_); (case e1 => wtm_at "hp"))
  | with_reducible refine st_try ?_
  | with_reducible refine se_by ?_
  | ((with_reducible refine' RTupO.l ?e1 ?_); (case e1 => wtm_at "hp"))
  | ((with_reducible refine' RListO.l ?e1 ?_); (case e1 => wtm_at "hp"))
  | ((with_reducible refine' RListO.t ?e1 ?_); (case e1 => wtm_at "hp"))
  | ((with_reducible refine' RListM.l ?e1 ?_); (case e1 => wtm_at "hp")))
local macro_rules | `(tactic| wtm_at "s5") => `(tactic| fail)
local macro_rules | `(tactic| wtm_at "s5") => `(tactic| first
  | wtm_at "s5x0"
  | wtm_at "s4"
  | wtm_at "s5x2"
  | wtm_at "s5x3")
local macro_rules | `(tactic| wtm_at "se") => `(tactic| fail)
local macro_rules | `(tactic| wtm_at "se") => `(tactic| repeat (wtm_at "s5"; try dsimp only [List.set, Int.reduceToNat]))
local macro_rules | `(tactic| wtm_at "sl") => `(tactic| fail)
local macro_rules | `(tactic| wtm_at "sl") => `(tactic| first
  | exact List.Sublist.refl _
  | (refine List.Sublist.cons₂ _ ?_; wtm_at "sl")
  | (refine List.Sublist.cons _ ?_; wtm_at "sl"))
local macro_rules | `(tactic| wtm_at "keep") => `(tactic| fail)
local macro_rules | `(tactic| wtm_at "keep") => `(tactic| exact HI.sublist (by assumption) (by wtm_at "sl"))
local macro_rules | `(tactic| wtm_at "s6x1") => `(tactic| fail)
local macro_rules | `(tactic| wtm_at "s6x1") => `(tactic| first
  | with_reducible refine se_dget2 ?_
  | with_reducible refine ip_mk ?_
  | with_reducible refine se_dnewM ?_
  | with_reducible refine se_dget1 ?_
  | ((with_reducible refine' dg_mk ?e1 ?_); (case e1 => wtm_at "hp"))
  | ((with_reducible refine' dq_i ?e1 ?_); (case e1 => wtm_at "hp"))
  | ((with_reducible refine' dq_s ?e1 ?_); (case e1 => wtm_at "hp"))
  | with_reducible refine se_dsub ?_
  | with_reducible refine se_din ?_
  | with_reducible refine se_dni ?_
  | ((with_reducible refine' di_i ?e1 ?_); (case e1 => wtm_at "hp"))
  | ((with_reducible refine' di_s ?e1 ?_); (case e1 => wtm_at "hp")))
local macro_rules | `(tactic| wtm_at "s6x2") => `(tactic| fail)
local macro_rules | `(tactic| wtm_at "s6x2") => `(tactic| first
  | with_reducible refine st_dput ?_
  | ((with_reducible refine' dp_i ?e1 ?e2 ?_); (case e1 => wtm_at "hi"); (case e2 => omega); intro _ _)
  | ((with_reducible refine' dp_s ?e1 ?e2 ?_); (case e1 => wtm_at "hi"); (case e2 => omega); intro _ _)
  | with_reducible refine se_dpop1 ?_
  | with_reducible refine it_seq ?_
  | ((with_reducible refine' seq_l ?e1 ?_); (case e1 => wtm_at "hp"))
  | ((with_reducible refine' seq_t ?e1 ?_); (case e1 => wtm_at "hp")))
local macro_rules | `(tactic| wtm_at "s6") => `(tactic| fail)
local macro_rules | `(tactic| wtm_at "s6") => `(tactic| first
  | wtm_at "s5"
  | wtm_at "s6x1"
  | wtm_at "s6x2")
local macro_rules | `(tactic| wtm_at "sg") => `(tactic| fail)
local macro_rules | `(tactic| wtm_at "sg") => `(tactic| repeat (wtm_at "s6"; try dsimp only [List.set, Int.reduceToNat]))
local macro_rules | `(tactic| wtm_at "s7") => `(tactic| fail)
local macro_rules | `(tactic| wtm_at "s7") => `(tactic| first
  | wtm_at "s6"
  | with_reducible refine st_augS ?_
  | with_reducible refine se_revL ?_
  | ((with_reducible refine' rv_mk ?e1 ?_); (case e1 => wtm_at "hp"))
  | ((with_reducible refine' RGetL.l ?e1 ?e2 ?e3 ?_); (case e1 => wtm_at "hp"); (case e2 => omega); (case e3 => assumption)))
local macro_rules | `(tactic| wtm_at "sh") => `(tactic| fail)
local macro_rules | `(tactic| wtm_at "sh") => `(tactic| repeat (wtm_at "s7"; try dsimp only [List.set, Int.reduceToNat]))
local macro_rules | `(tactic| wtm_at "s8") => `(tactic| fail)
local macro_rules | `(tactic| wtm_at "s8") => `(tactic| first
  | wtm_at "s7"
  | with_reducible refine se_fmtO ?_)
local macro_rules | `(tactic| wtm_at "si") => `(tactic| fail)
local macro_rules | `(tactic| wtm_at "si") => `(tactic| repeat (wtm_at "s8"; try dsimp only [List.set, Int.reduceToNat]))
local macro_rules | `(tactic| wtm_at "hi") => `(tactic| exact HI.up4 (by assumption))
local macro_rules | `(tactic| wtm_at "s9x0") => `(tactic| fail)
local macro_rules | `(tactic| wtm_at "s9x0") => `(tactic| first
  | ((with_reducible refine' disp_nowM ?e1 ?e2 ?e3 ?_); (case e1 => assumption); (case e2 => rfl); (case e3 => exact Nat.le_of_ble_eq_true rfl); intro _ _))
local macro_rules | `(tactic| wtm_at "s9x2") => `(tactic| fail)
local macro_rules | `(tactic| wtm_at "s9x2") => `(tactic| first
  | with_reducible refine st_par3 ?_
  | with_reducible refine par3_mk ?_
  | with_reducible refine se_mkQ ?_
  | ((with_reducible refine' mkQ_now ?e1 ?_); (case e1 => assumption); intro _ _ _ _ _ _ _ _ _ _)
  | ((with_reducible refine' se_dispM ?e1 ?_); (case e1 => assumption); intro _ _ _))
local macro_rules | `(tactic| wtm_at "s9") => `(tactic| fail)
local macro_rules | `(tactic| wtm_at "s9") => `(tactic| first
  | wtm_at "s9x0"
  | wtm_at "s8"
  | wtm_at "s9x2")
local macro_rules | `(tactic| wtm_at "sj") => `(tactic| fail)
local macro_rules | `(tactic| wtm_at "sj") => `(tactic| repeat (wtm_at "s9"; try dsimp only [List.set, Int.reduceToNat]))
local macro_rules | `(tactic| wtm_at "s10") => `(tactic| fail)
local macro_rules | `(tactic| wtm_at "s10") => `(tactic| first
  | wtm_at "s7"
  | with_reducible refine it_enumF ?_
  | ((with_reducible refine' enumF_mk ?e1 ?e2 ?_); (case e1 => wtm_at "hp"); (case e2 => decide))
  | with_reducible refine it_rng3 ?_
  | ((with_reducible refine' rng3_dn ?e1 ?_); (case e1 => omega)))
local macro_rules | `(tactic| wtm_at "sk") => `(tactic| fail)
local macro_rules | `(tactic| wtm_at "sk") => `(tactic| repeat (wtm_at "s10"; try dsimp only [List.set, Int.reduceToNat]))
local macro_rules | `(tactic| wtm_at "s11") => `(tactic| fail)
local macro_rules | `(tactic| wtm_at "s11") => `(tactic| first
  | wtm_at "s9"
  | with_reducible refine it_enumF ?_
  | ((with_reducible refine' enumF_mk ?e1 ?e2 ?_); (case e1 => wtm_at "hp"); (case e2 => decide))
  | with_reducible refine it_rng3 ?_
  | ((with_reducible refine' rng3_dn ?e1 ?_); (case e1 => omega))
  | with_reducible refine it_items ?_)
local macro_rules | `(tactic| wtm_at "sm") => `(tactic| fail)
local macro_rules | `(tactic| wtm_at "sm") => `(tactic| repeat (wtm_at "s11"; try dsimp only [List.set, Int.reduceToNat]))
local macro_rules | `(tactic| wtm_at "s12") => `(tactic| fail)
local macro_rules | `(tactic| wtm_at "s12") => `(tactic| first
  | wtm_at "s11"
  | with_reducible refine se_lrg ?_
  | ((with_reducible refine' lrg_mk ?e1 ?_); (case e1 => exact RgOk.of_le (by omega) (by omega) (by omega) (by omega))))
local macro_rules | `(tactic| wtm_at "sn") => `(tactic| fail)
local macro_rules | `(tactic| wtm_at "sn") => `(tactic| repeat (wtm_at "s12"; try dsimp only [List.set, Int.reduceToNat]))
def wholeB : V → Int → Int → Bool
  | .int i, lo, hi => decide (lo ≤ i) && decide (i ≤ hi)
  | _, _, _ => false
def spWhole (K : PySem.W.Frag) : Sp := fun vs H Q _ => ∃ (v : V) (lo hi : Int) (R : Cells) (D : Hp), vs = [v, .int lo, .int hi] ∧ HI H R D ∧ Mt K R D v ∧ ∀ H', HI H' R D → Q (.bl (wholeB v lo hi)) H'
set_option maxHeartbeats 400000 in
theorem ok_is_whole {P : Program} {w : World} {K : PySem.W.Frag} {mg : Str → Option Value} {base : Heap} (T : Tx K mg) : FnG P w K mg base 1 (a_is_whole K) ["thing", "low", "high"] (spWhole K) := by
  refine T.f_is_whole.ok sc_is_whole (fun vs H Q E h => ?_) (fun cdv A outer s H vs Q E hgu hr h => ⟨_, (pss_one (ps_ret (pe_and (pe_callB (show CallR _ (.builtin "isinstance") (RIsi K) from call_isiU) (by rfl) T.n_isinstance boot_isinstance (pa_cons (pv 0) (pa_cons (pe_bltn (v := .ty "int") (by rfl) T.n_int boot_int rfl) pa_nil))) (pe_and (pe_not (pe_callB (show CallR _ (.builtin "isinstance") (RIsi K) from call_isiU) (by rfl) T.n_isinstance boot_isinstance (pa_cons (pv 0) (pa_cons (pe_bltn (v := .ty "bool") (by rfl) T.n_bool boot_bool rfl) pa_nil)))) (pe_one (pe_chain op_le op_le (pv 1) (pv 0) (pv 2))))))), ?_⟩)
  · obtain ⟨v, lo, hi, R, D, rfl, _⟩ := h
    rfl
  · obtain ⟨v, lo, hi, R, D, rfl, hI, mt, go⟩ := h
    obtain ⟨⟨k, kn⟩, _⟩ := mt.kn hI
    wtm_at "go"
    rcases kn.told with ⟨rfl, rfl⟩ | ⟨b, rfl, rfl⟩ | ⟨i, rfl, rfl⟩ | ⟨z, rfl, rfl⟩ | ⟨a, rfl, hk⟩
    · exact go _ (by assumption)
    · refine iteT ?_
      wtm_at "sx"
      refine iteF ?_
      exact go _ (by assumption)
    · refine iteT ?_
      wtm_at "sx"
      refine iteT ?_
      wtm_at "sx"
      have g : Q (.bl (decide (lo ≤ i) && decide (i ≤ hi))) H := go _ (by assumption)
      refine if_dec (fun h => ?_) (fun h => ?_)
      · wtm_at "sx"
        rw [decide_eq_true h, Bool.true_and] at g
        exact g
      · rw [decide_eq_false h, Bool.false_and] at g
        exact g
    · exact go _ (by assumption)
    · have g := go _ (by assumption)
      rcases hk with rfl | rfl | rfl | rfl <;> exact g
theorem whole_use {K : PySem.W.Frag} {v : V} {lo hi : Int} {R : Cells} {D H : Hp} {Q : VK} {E : XK} (h : HI H R D) (mt : Mt K R D v) (q : ∀ H', HI H' R D → Q (.bl (wholeB v lo hi)) H') : spWhole K [v, .int lo, .int hi] H Q E := ⟨v, lo, hi, R, D, rfl, h, mt, q⟩
theorem whole_is {v : V} {lo hi : Int} (h : wholeB v lo hi = true) : ∃ i, v = .int i ∧ lo ≤ i ∧ i ≤ hi := by
  cases v with
  | int i =>
    obtain ⟨a, b⟩ := He.ba (show (decide (lo ≤ i) && decide (i ≤ hi)) = true from h)
    exact ⟨i, rfl, of_decide_eq_true a, of_decide_eq_true b⟩
  | _ => cases h
theorem whole_ok {i lo hi : Int} (h0 : lo ≤ i) (h1 : i ≤ hi) : wholeB (.int i) lo hi = true := by
  show (decide (lo ≤ i) && decide (i ≤ hi)) = true
  rw [decide_eq_true h0, decide_eq_true h1]
  rfl
def abc : Str := "abcdefghijklmnopqrstuvwxyz"
/-- is it a name -/
def nameB : V → Bool
  | .str z => decide (1 ≤ z.length) && (decide (z.length ≤ 8) && z.cps.toList.all fun c => decide (c ∈ abc.cps.toList))
  | _ => false
def spName (K : PySem.W.Frag) : Sp := fun vs H Q _ => ∃ (v : V) (R : Cells) (D : Hp), vs = [v] ∧ HI H R D ∧ Mt K R D v ∧ ∀ H' D', HI H' R D' → Ex D D' → Q (.bl (nameB v)) H'
set_option maxHeartbeats 400000 in
theorem ok_is_name {P : Program} {w : World} {K : PySem.W.Frag} {mg : Str → Option Value} {base : Heap} (T : Tx K mg) : FnG P w K mg base 1 (a_is_name K) ["thing"] (spName K) := by
  refine T.f_is_name.ok sc_is_name (fun vs H Q E h => ?_) (fun cdv A outer s H vs Q E hgu hr h => ⟨_, (pss_cons (ps_if (PW.pt (pw_or (pt_not (pt_val (pe_callB (show CallR _ (.builtin "isinstance") (RIsi K) from call_isiU) (by rfl) T.n_isinstance boot_isinstance (pa_cons (pv 0) (pa_cons (pe_bltn (v := .ty "str") (by rfl) T.n_str boot_str rfl) pa_nil))))) (pw_or1 (pt_not (pt_chain (op_le) (op_le) pe_int (pe_callB (call_lenU) (by rfl) T.n_len boot_len (pa_cons (pv 0) pa_nil)) (pe_gi rfl T.c_LONGEST)))))) (pss_one (ps_ret pe_bl)) pss_nil)
 (pss_one (ps_ret (pe_callB (call_allU rfl) (by rfl) T.n_all boot_all (pa_cons (pe_lc (own := [("sign", 1)]) rfl sc_is_name.nd (pi_str (pv 0)) (blkOk_by (own := [("sign", 1)]) (N := ["thing", "sign"]) (sc := defScope s_is_name) (by decide +kernel)) (fun _ _ _ _ _ => (pg_name (i := 1) sc_is_name.nd rfl (by first | exact Or.inl rfl | exact Or.inr rfl))) (fun _ _ _ _ _ => pts_nil) (fun _ _ _ _ _ => (pe_cmpR op_inU (pv 1) (pe_gs rfl T.c_LETTERS) (by rfl)))) pa_nil))))), ?_⟩)
  · obtain ⟨v, R, D, rfl, _⟩ := h
    rfl
  · obtain ⟨v, R, D, rfl, hI, mt, go⟩ := h
    obtain ⟨⟨k, kn⟩, hz'⟩ := mt.kn hI
    have hz : ∀ z, v = .str z → z.length ≤ 1000 := fun z e => (hz' z e).len
    wtm_at "go"
    rcases kn.told with ⟨rfl, rfl⟩ | ⟨b, rfl, rfl⟩ | ⟨i, rfl, rfl⟩ | ⟨z, rfl, rfl⟩ | ⟨a, rfl, hk⟩
    · exact go _ _ (by assumption) (Ex.refl _)
    · exact go _ _ (by assumption) (Ex.refl _)
    · exact go _ _ (by assumption) (Ex.refl _)
    · have hz := hz z rfl
      refine iteF ?_
      wtm_at "sx"
      refine if_dec (fun h1 => ?_) (fun h1 => ?_)
      · wtm_at "sx"
        by_cases h2 : ((z.length : Nat) : Int) ≤ 8
        · rw [decide_eq_true h2]
          refine iteF ?_
          wtm_at "sx"
          refine lc_str (fun i acc R' D' => R' = R ∧ Ex D D' ∧ acc = ((z.cps.toList.take i).map fun c => decide (c ∈ abc.cps.toList)).map V.bl) hI ⟨rfl, Ex.refl _, rfl⟩ (fun L i acc c R' D' H' hc hI' p hl => ?_) (fun L acc R' D' H' hI' p hl => ?_)
          · obtain ⟨rfl, x, rfl⟩ := p
            wtm_at "sx"
            refine le_mk hI' ⟨rfl, x, ?_⟩ hl ?_
            · rw [take_more (cps_get hc), List.map_append, List.map_append]
              rfl
            · have := (List.getElem?_eq_some_iff.mp (cps_get hc)).1
              rw [cps_len] at this
              omega
          · obtain ⟨rfl, x, rfl⟩ := p
            wtm_at "sx"
            have g := go _ _ hI'.drop x
            have e1 : 1 ≤ z.length := by omega
            have e2 : z.length ≤ 8 := by omega
            have e3 : nameB (.str z) = ((z.cps.toList.take z.cps.size).map fun c => decide (c ∈ abc.cps.toList)).all id := by
              show (decide (1 ≤ z.length) && (decide (z.length ≤ 8) && z.cps.toList.all fun c => decide (c ∈ abc.cps.toList))) = _
              rw [decide_eq_true e1, decide_eq_true e2, Bool.true_and, Bool.true_and, List.all_map, List.take_of_length_le (by simp)]
              rfl
            rw [e3] at g
            exact g
        · rw [decide_eq_false h2]
          refine iteT ?_
          wtm_at "sx"
          have g := go _ _ hI (Ex.refl _)
          have e3 : nameB (.str z) = false := by
            show (decide (1 ≤ z.length) && (decide (z.length ≤ 8) && z.cps.toList.all fun c => decide (c ∈ abc.cps.toList))) = _
            rw [decide_eq_false (show ¬ z.length ≤ 8 by omega), Bool.false_and, Bool.and_false]
          rw [e3] at g
          exact g
      · wtm_at "sx"
        have g := go _ _ hI (Ex.refl _)
        have e3 : nameB (.str z) = false := by
          show (decide (1 ≤ z.length) && (decide (z.length ≤ 8) && z.cps.toList.all fun c => decide (c ∈ abc.cps.toList))) = _
          rw [decide_eq_false (show ¬ 1 ≤ z.length by omega), Bool.false_and]
        rw [e3] at g
        exact g
    · have g := go _ _ hI (Ex.refl _)
      rcases hk with rfl | rfl | rfl | rfl <;> exact g
theorem name_use {K : PySem.W.Frag} {v : V} {R : Cells} {D H : Hp} {Q : VK} {E : XK} (h : HI H R D) (mt : Mt K R D v) (q : ∀ H' D', HI H' R D' → Ex D D' → Q (.bl (nameB v)) H') : spName K [v] H Q E := ⟨v, R, D, rfl, h, mt, q⟩
def Abc (c : Nat) : Prop := c ∈ abc.cps.toList
/-- a name -/
structure Nm (z : Str) : Prop where
  l0 : 1 ≤ z.length
  l1 : z.length ≤ 8
  a : LP Abc z
theorem Nm.txt {z : Str} (h : Nm z) : TxtOk z := ⟨by have := h.l1; omega, fun c hc => (sg_of rfl : Sg abc) c (h.a c hc)⟩
theorem Nm.is {z : Str} (h : Nm z) : nameB (.str z) = true := by
  show (decide (1 ≤ z.length) && (decide (z.length ≤ 8) && z.cps.toList.all fun c => decide (c ∈ abc.cps.toList))) = true
  rw [decide_eq_true h.l0, decide_eq_true h.l1, Bool.true_and, Bool.true_and, List.all_eq_true]
  exact fun c hc => decide_eq_true (h.a c hc)
theorem nm_of {z : Str} (h : (decide (1 ≤ z.length) && (decide (z.length ≤ 8) && z.cps.toList.all fun c => decide (c ∈ abc.cps.toList))) = true) : Nm z := by
  obtain ⟨a, b⟩ := He.ba h
  obtain ⟨b, c⟩ := He.ba b
  exact ⟨of_decide_eq_true a, of_decide_eq_true b, fun x hx => (of_decide_eq_true (List.all_eq_true.mp c x hx) : x ∈ abc.cps.toList)⟩
theorem nm_is {v : V} (h : nameB v = true) : ∃ z, v = .str z ∧ Nm z := by
  cases v with
  | str z => exact ⟨z, rfl, nm_of h⟩
  | _ => cases h
def spNeedName (K : PySem.W.Frag) : Sp := fun vs H Q E => ∃ (v : V) (R : Cells) (D : Hp), vs = [v] ∧ HI H R D ∧ Mt K R D v ∧ (nameB v = true → ∀ H' D', HI H' R D' → Ex D D' → Q .non H') ∧ (nameB v = false → Outs E (He.ga K "NoName") v R D)
def spNeedNumber (K : PySem.W.Frag) : Sp := fun vs H Q E => ∃ (v : V) (lo hi : Int) (R : Cells) (D : Hp), vs = [v, .int lo, .int hi] ∧ HI H R D ∧ Mt K R D v ∧ (wholeB v lo hi = true → ∀ H' D', HI H' R D' → Ex D D' → Q .non H') ∧ (wholeB v lo hi = false → Outs E (He.ga K "NoNumber") v R D)
set_option maxHeartbeats 400000 in
theorem ok_need_name {P : Program} {w : World} {K : PySem.W.Frag} {mg : Str → Option Value} {base : Heap} (T : Tx K mg) : FnG P w K mg base 4 (a_need_name K) ["thing"] (spNeedName K) := by
  refine T.f_need_name.ok sc_need_name (fun vs H Q E h => ?_) (fun cdv A outer s H vs Q E hgu hr h => ⟨_, (pss_one (ps_if (pt_not (pt_val (ge_call (ok_is_name T) hgu (hr.mono (by decide)) rfl T.g_is_name T.k_is_name T.b_is_name .nil (fun _ => pass_takes (takes_of rfl rfl rfl rfl)) (pa_cons (pv 0) pa_nil)))) (pss_one (ps_raiseX rfl (takes_of rfl rfl rfl rfl) T.x_NoName (ok_NoName_init T) T.b_NoName_init (hr.mono (by decide)) rfl (pa_cons (pv 0) pa_nil))) pss_nil)), ?_⟩)
  · obtain ⟨v, R, D, rfl, _⟩ := h
    rfl
  · obtain ⟨v, R, D, rfl, hI, th, good, bad⟩ := h
    wtm_at "go"
    wtm_at "sc"
    refine name_use hI th (fun H1 D1 hI1 x1 => ?_)
    wtm_at "sc"
    cases hb : nameB v
    · refine iteT ?_
      wtm_at "sc"
      exact bad hb _ _ _ (by assumption) (by wtm_at "ex") (by wtm_at "dat")
    · refine iteF ?_
      wtm_at "sc"
      exact good hb _ _ hI1 x1
set_option maxHeartbeats 400000 in
theorem ok_need_number {P : Program} {w : World} {K : PySem.W.Frag} {mg : Str → Option Value} {base : Heap} (T : Tx K mg) : FnG P w K mg base 4 (a_need_number K) ["thing", "low", "high"] (spNeedNumber K) := by
  refine T.f_need_number.ok sc_need_number (fun vs H Q E h => ?_) (fun cdv A outer s H vs Q E hgu hr h => ⟨_, (pss_one (ps_if (pt_not (pt_val (ge_call (ok_is_whole T) hgu (hr.mono (by decide)) rfl T.g_is_whole T.k_is_whole T.b_is_whole .nil (fun _ => pass_takes (takes_of rfl rfl rfl rfl)) (pa_cons (pv 0) (pa_cons (pv 1) (pa_cons (pv 2) pa_nil)))))) (pss_one (ps_raiseX rfl (takes_of rfl rfl rfl rfl) T.x_NoNumber (ok_NoNumber_init T) T.b_NoNumber_init (hr.mono (by decide)) rfl (pa_cons (pv 0) pa_nil))) pss_nil)), ?_⟩)
  · obtain ⟨v, lo, hi, R, D, rfl, _⟩ := h
    rfl
  · obtain ⟨v, lo, hi, R, D, rfl, hI, th, good, bad⟩ := h
    wtm_at "go"
    wtm_at "sc"
    refine whole_use hI th (fun H1 hI1 => ?_)
    wtm_at "sc"
    cases hb : wholeB v lo hi
    · refine iteT ?_
      wtm_at "sc"
      exact bad hb _ _ _ (by assumption) (by wtm_at "ex") (by wtm_at "dat")
    · refine iteF ?_
      wtm_at "sc"
      exact good hb _ _ hI1 (Ex.refl _)
theorem need_name_use {K : PySem.W.Frag} {v : V} {R : Cells} {D H : Hp} {Q : VK} {E : XK} (h : HI H R D) (th : Mt K R D v) (good : nameB v = true → ∀ H' D', HI H' R D' → Ex D D' → Q .non H') (bad : nameB v = false → Outs E (He.ga K "NoName") v R D) : spNeedName K [v] H Q E := ⟨v, R, D, rfl, h, th, good, bad⟩
theorem need_number_use {K : PySem.W.Frag} {v : V} {lo hi : Int} {R : Cells} {D H : Hp} {Q : VK} {E : XK} (h : HI H R D) (th : Mt K R D v) (good : wholeB v lo hi = true → ∀ H' D', HI H' R D' → Ex D D' → Q .non H') (bad : wholeB v lo hi = false → Outs E (He.ga K "NoNumber") v R D) : spNeedNumber K [v, .int lo, .int hi] H Q E := ⟨v, lo, hi, R, D, rfl, h, th, good, bad⟩
/-- the attributes of a sort -/
def sortF (a b c d e : V) : List (Str × V) := [("called", a), ("belongs", b), ("warmth_needed", c), ("weeks_kept", d), ("cold_borne", e)]
/-- the first thing that is not as it must be -/
def sortBad (K : PySem.W.Frag) (a b c d e : V) : Option (Addr × V) := if nameB a = false then some (He.ga K "NoName", a) else if nameB b = false then some (He.ga K "NoName", b) else if wholeB c 1 10000 = false then some (He.ga K "NoNumber", c) else
  if wholeB d 1 12 = false then some (He.ga K "NoNumber", d) else if wholeB e (-60) 60 = false then some (He.ga K "NoNumber", e) else none
def spSortInit (K : PySem.W.Frag) : Sp := fun vs H Q E => ∃ (x dx : Addr) (a b c d e : V) (R : Cells) (D : Hp), vs = [.ref x, a, b, c, d, e] ∧ HI H ((x, .ins (He.ga K "Sort") dx []) :: R) D ∧ Mt K R D a ∧ Mt K R D b ∧ Mt K R D c ∧ Mt K R D d ∧ Mt K R D e ∧
  (sortBad K a b c d e = none → ∀ H' D', HI H' ((x, .ins (He.ga K "Sort") dx (sortF a b c d e)) :: R) D' → Ex D D' → Q .non H') ∧ (∀ C v, sortBad K a b c d e = some (C, v) → Outs E C v ((x, .ins (He.ga K "Sort") dx []) :: R) D)
set_option maxHeartbeats 1000000 in
theorem ok_Sort_init {P : Program} {w : World} {K : PySem.W.Frag} {mg : Str → Option Value} {base : Heap} (T : Tx K mg) : FnG P w K mg base 5 (a_Sort_init K) ["self", "name", "kin", "needs", "keeps", "bears"] (spSortInit K) := by
  refine T.f_Sort_init.ok sc_Sort_init (fun vs H Q E h => ?_) (fun cdv A outer s H vs Q E hgu hr h => ⟨_, (pss_cons (ps_expr (ge_call (ok_need_name T) hgu (hr.mono (by decide)) rfl T.g_need_name T.k_need_name T.b_need_name .nil (fun _ => pass_takes (takes_of rfl rfl rfl rfl)) (pa_cons (pv 1) pa_nil)))
 (pss_cons (ps_expr (ge_call (ok_need_name T) hgu (hr.mono (by decide)) rfl T.g_need_name T.k_need_name T.b_need_name .nil (fun _ => pass_takes (takes_of rfl rfl rfl rfl)) (pa_cons (pv 2) pa_nil)))
 (pss_cons (ps_expr (ge_call (ok_need_number T) hgu (hr.mono (by decide)) rfl T.g_need_number T.k_need_number T.b_need_number .nil (fun _ => pass_takes (takes_of rfl rfl rfl rfl)) (pa_cons (pv 3) (pa_cons pe_int (pa_cons (pe_gi rfl T.c_MOST_NEEDS) pa_nil)))))
 (pss_cons (ps_expr (ge_call (ok_need_number T) hgu (hr.mono (by decide)) rfl T.g_need_number T.k_need_number T.b_need_number .nil (fun _ => pass_takes (takes_of rfl rfl rfl rfl)) (pa_cons (pv 4) (pa_cons pe_int (pa_cons (pe_gi rfl T.c_MOST_KEEPS) pa_nil)))))
 (pss_cons (ps_expr (ge_call (ok_need_number T) hgu (hr.mono (by decide)) rfl T.g_need_number T.k_need_number T.b_need_number .nil (fun _ => pass_takes (takes_of rfl rfl rfl rfl)) (pa_cons (pv 5) (pa_cons (pe_op op_sub pe_int (pe_gi rfl T.c_COLD)) (pa_cons (pe_gi rfl T.c_COLD) pa_nil)))))
 (pss_cons (ps_fld (pv 0) (pv 1) rfl)
 (pss_cons (ps_fld (pv 0) (pv 2) rfl)
 (pss_cons (ps_fld (pv 0) (pv 3) rfl)
 (pss_cons (ps_fld (pv 0) (pv 4) rfl)
 (pss_one (ps_fld (pv 0) (pv 5) rfl))))))))))), ?_⟩)
  · obtain ⟨x, dx, a, b, c, d, e, R, D, rfl, _⟩ := h
    rfl
  · obtain ⟨x, dx, a, b, c, d, e, R, D, rfl, hI, ta, tb, tc, td, te, good, bad⟩ := h
    have pc := T.pc_Sort
    unfold sortBad at good bad
    wtm_at "go"
    wtm_at "sc"
    refine need_name_use hI ta.cell (fun b1 H1 D1 hI1 x1 => ?_) (fun q => bad _ _ (if_pos q))
    rw [if_neg (by rw [b1]; decide)] at good bad
    wtm_at "sc"
    refine need_name_use hI1 (tb.mono x1).cell (fun b2 H2 D2 hI2 x2 => ?_) (fun q => (bad _ _ (if_pos q)).mono x1)
    rw [if_neg (by rw [b2]; decide)] at good bad
    wtm_at "sc"
    refine need_number_use hI2 (tc.mono (by wtm_at "ex")).cell (fun b3 H3 D3 hI3 x3 => ?_) (fun q => (bad _ _ (if_pos q)).mono (by wtm_at "ex"))
    rw [if_neg (by rw [b3]; decide)] at good bad
    wtm_at "sc"
    refine need_number_use hI3 (td.mono (by wtm_at "ex")).cell (fun b4 H4 D4 hI4 x4 => ?_) (fun q => (bad _ _ (if_pos q)).mono (by wtm_at "ex"))
    rw [if_neg (by rw [b4]; decide)] at good bad
    wtm_at "sc"
    refine need_number_use hI4 (te.mono (by wtm_at "ex")).cell (fun b5 H5 D5 hI5 x5 => ?_) (fun q => (bad _ _ (if_pos q)).mono (by wtm_at "ex"))
    rw [if_neg (by show ¬ wholeB e (-60) 60 = false; have b6 : wholeB e (-60) 60 = true := b5; rw [b6]; decide)] at good bad
    wtm_at "sc"
    exact good rfl _ _ (by assumption) (by wtm_at "ex")
/-- a sort -/
structure Srt where
  nm : Str
  kn : Str
  n : Int
  k : Int
  b : Int
deriving DecidableEq
def Srt.f (s : Srt) : List (Str × V) := sortF (.str s.nm) (.str s.kn) (.int s.n) (.int s.k) (.int s.b)
structure Srt.Ok (s : Srt) : Prop where
  nm : Nm s.nm
  kn : Nm s.kn
  n0 : 1 ≤ s.n
  n1 : s.n ≤ 10000
  k0 : 1 ≤ s.k
  k1 : s.k ≤ 12
  b0 : -60 ≤ s.b
  b1 : s.b ≤ 60
/-- at a: the sort -/
def IsSrt (K : PySem.W.Frag) (D : Hp) (a : Addr) (s : Srt) : Prop := s.Ok ∧ ∃ dx, D a = some (.ins (He.ga K "Sort") dx s.f)
theorem IsSrt.mono {K : PySem.W.Frag} {D D' : Hp} {a : Addr} {s : Srt} (h : IsSrt K D a s) (x : Ex D D') : IsSrt K D' a s := by
  obtain ⟨o, dx, e⟩ := h
  exact ⟨o, dx, x _ _ e⟩
def spGetS (K : PySem.W.Frag) (g : Srt → V) : Sp := fun vs H Q _ => ∃ (a : Addr) (s : Srt) (R : Cells) (D : Hp), vs = [.ref a] ∧ HI H R D ∧ IsSrt K D a s ∧ Q (g s) H
theorem get_use {K : PySem.W.Frag} {g : Srt → V} {a : Addr} {s : Srt} {R : Cells} {D H : Hp} {Q : VK} {E : XK} (h : HI H R D) (i : IsSrt K D a s) (q : Q (g s) H) : spGetS K g [.ref a] H Q E := ⟨a, s, R, D, rfl, h, i, q⟩
theorem ok_Sort_kin {P : Program} {w : World} {K : PySem.W.Frag} {mg : Str → Option Value} {base : Heap} (T : Tx K mg) : FnG P w K mg base 1 (a_Sort_kin K) ["self"] (spGetS K fun s => .str s.kn) := by
  refine T.f_Sort_kin.ok sc_Sort_kin (fun vs H Q E h => ?_) (fun cdv A outer s H vs Q E hgu hr h => ⟨_, (pss_one (ps_ret (pe_fld (pv 0) rfl))), ?_⟩)
  · obtain ⟨a, s, R, D, rfl, _⟩ := h
    rfl
  · obtain ⟨a, s, R, D, rfl, hI, ⟨ok, dx, ea⟩, go⟩ := h
    have pc := T.pc_Sort
    unfold Srt.f sortF at ea
    wtm_at "go"
    wtm_at "sc"
    exact go
theorem ok_Sort_needs {P : Program} {w : World} {K : PySem.W.Frag} {mg : Str → Option Value} {base : Heap} (T : Tx K mg) : FnG P w K mg base 1 (a_Sort_needs K) ["self"] (spGetS K fun s => .int s.n) := by
  refine T.f_Sort_needs.ok sc_Sort_needs (fun vs H Q E h => ?_) (fun cdv A outer s H vs Q E hgu hr h => ⟨_, (pss_one (ps_ret (pe_fld (pv 0) rfl))), ?_⟩)
  · obtain ⟨a, s, R, D, rfl, _⟩ := h
    rfl
  · obtain ⟨a, s, R, D, rfl, hI, ⟨ok, dx, ea⟩, go⟩ := h
    have pc := T.pc_Sort
    unfold Srt.f sortF at ea
    wtm_at "go"
    wtm_at "sc"
    exact go
theorem ok_Sort_keeps {P : Program} {w : World} {K : PySem.W.Frag} {mg : Str → Option Value} {base : Heap} (T : Tx K mg) : FnG P w K mg base 1 (a_Sort_keeps K) ["self"] (spGetS K fun s => .int s.k) := by
  refine T.f_Sort_keeps.ok sc_Sort_keeps (fun vs H Q E h => ?_) (fun cdv A outer s H vs Q E hgu hr h => ⟨_, (pss_one (ps_ret (pe_fld (pv 0) rfl))), ?_⟩)
  · obtain ⟨a, s, R, D, rfl, _⟩ := h
    rfl
  · obtain ⟨a, s, R, D, rfl, hI, ⟨ok, dx, ea⟩, go⟩ := h
    have pc := T.pc_Sort
    unfold Srt.f sortF at ea
    wtm_at "go"
    wtm_at "sc"
    exact go
theorem ok_Sort_bears {P : Program} {w : World} {K : PySem.W.Frag} {mg : Str → Option Value} {base : Heap} (T : Tx K mg) : FnG P w K mg base 1 (a_Sort_bears K) ["self"] (spGetS K fun s => .int s.b) := by
  refine T.f_Sort_bears.ok sc_Sort_bears (fun vs H Q E h => ?_) (fun cdv A outer s H vs Q E hgu hr h => ⟨_, (pss_one (ps_ret (pe_fld (pv 0) rfl))), ?_⟩)
  · obtain ⟨a, s, R, D, rfl, _⟩ := h
    rfl
  · obtain ⟨a, s, R, D, rfl, hI, ⟨ok, dx, ea⟩, go⟩ := h
    have pc := T.pc_Sort
    unfold Srt.f sortF at ea
    wtm_at "go"
    wtm_at "sc"
    exact go
def Srt.t (s : Srt) : List V := [.str s.nm, .str s.kn, .int s.n, .int s.k, .int s.b]
def Srt.d (s : Srt) : PyData := .tuple [.str s.nm, .str s.kn, .int s.n, .int s.k, .int s.b]
theorem Srt.rep {H : Hp} {p : Addr} {s : Srt} (e : H p = some (.tup s.t)) : Rep H (.ref p) s.d := .tup e (.cons (.str _) (.cons (.str _) (.cons (.int _) (.cons (.int _) (.cons (.int _) .nil)))))
theorem Srt.shaped {s : Srt} (o : s.Ok) : SeqAt.shaped s.d = true := by
  unfold SeqAt.shaped Srt.d
  simp [PyData.canLay0, PyData.canLayAll0, PyData.depth, PyData.depthAll, o.nm.txt.ok, o.kn.txt.ok]
theorem Srt.eqv {s u : Srt} : PyData.eqv s.d u.d = decide (s = u) := by
  obtain ⟨a1, a2, a3, a4, a5⟩ := s
  obtain ⟨b1, b2, b3, b4, b5⟩ := u
  by_cases h : (⟨a1, a2, a3, a4, a5⟩ : Srt) = ⟨b1, b2, b3, b4, b5⟩
  · rw [decide_eq_true h]
    cases h
    simp [Srt.d, PyData.eqv, PyData.eqvAll]
  · rw [decide_eq_false h]
    simp [Srt.d, PyData.eqv, PyData.eqvAll]
    intro e1 e2 e3 e4 e5
    exact h (by rw [e1, e2, e3, e4, e5])
theorem IsSrt.ty {K : PySem.W.Frag} {D : Hp} {a : Addr} {s : Srt} (i : InsC K (He.ga K "Sort")) (h : IsSrt K D a s) : Ty K D (.ref a) (.ref (He.ga K "Sort")) := by
  obtain ⟨_, dx, e⟩ := h
  exact .o (.ins e i)
/-- what the maker of a sort has found to be good -/
theorem sort_none {K : PySem.W.Frag} {a b c d e : V} (h : sortBad K a b c d e = none) : ∃ u : Srt, u.Ok ∧ a = .str u.nm ∧ b = .str u.kn ∧ c = .int u.n ∧ d = .int u.k ∧ e = .int u.b := by
  unfold sortBad at h
  cases h1 : nameB a with
  | false => rw [if_pos h1] at h; cases h
  | true =>
    rw [if_neg (by rw [h1]; decide)] at h
    cases h2 : nameB b with
    | false => rw [if_pos h2] at h; cases h
    | true =>
      rw [if_neg (by rw [h2]; decide)] at h
      cases h3 : wholeB c 1 10000 with
      | false => rw [if_pos h3] at h; cases h
      | true =>
        rw [if_neg (by rw [h3]; decide)] at h
        cases h4 : wholeB d 1 12 with
        | false => rw [if_pos h4] at h; cases h
        | true =>
          rw [if_neg (by rw [h4]; decide)] at h
          cases h5 : wholeB e (-60) 60 with
          | false => rw [if_pos h5] at h; cases h
          | true =>
            obtain ⟨n, rfl, hn⟩ := nm_is h1
            obtain ⟨k, rfl, hk⟩ := nm_is h2
            obtain ⟨i, rfl, i0, i1⟩ := whole_is h3
            obtain ⟨j, rfl, j0, j1⟩ := whole_is h4
            obtain ⟨l, rfl, l0, l1⟩ := whole_is h5
            exact ⟨⟨n, k, i, j, l⟩, ⟨hn, hk, i0, i1, j0, j1, l0, l1⟩, rfl, rfl, rfl, rfl, rfl⟩
theorem sort_good' {K : PySem.W.Frag} {s : Srt} (h : s.Ok) : sortBad K (.str s.nm) (.str s.kn) (.int s.n) (.int s.k) (.int s.b) = none := by
  unfold sortBad
  rw [h.nm.is, h.kn.is, whole_ok h.n0 h.n1, whole_ok h.k0 h.k1, whole_ok h.b0 h.b1]
  rfl
theorem make_srt {K : PySem.W.Frag} {x dx : Addr} {a b c d e : V} {R : Cells} {D H : Hp} {P : Hp → Prop} {E : XK} (hI : HI H ((x, .ins (He.ga K "Sort") dx []) :: (dx, .own x) :: R) D) (ta : Mt K R D a) (tb : Mt K R D b) (tc : Mt K R D c) (td : Mt K R D d) (te : Mt K R D e)
    (good : ∀ u H' D', HI H' R D' → Ex D D' → IsSrt K D' x u → a = .str u.nm → b = .str u.kn → c = .int u.n → d = .int u.k → e = .int u.b → P H') (bad : ∀ C v, sortBad K a b c d e = some (C, v) → Outs E C v R D) :
    spSortInit K [.ref x, a, b, c, d, e] H (fun v H2 => v = .non ∧ P H2) E := by
  refine ⟨x, dx, _, _, _, _, _, _, D, rfl, hI, ta.cell, tb.cell, tc.cell, td.cell, te.cell, fun h H' D' hI' ex => ⟨rfl, ?_⟩, fun C v h => (bad C v h).cell.cell⟩
  obtain ⟨u, ok, e1, e2, e3, e4, e5⟩ := sort_none h
  obtain ⟨D2, h2, x2, e6⟩ := hI'.freezeI
  refine good u _ _ h2 (ex.trans x2) ⟨ok, dx, ?_⟩ e1 e2 e3 e4 e5
  rw [e1, e2, e3, e4, e5] at e6
  exact e6
theorem make_good {K : PySem.W.Frag} {x dx : Addr} {s : Srt} {R : Cells} {D H : Hp} {P : Hp → Prop} {E : XK} (hI : HI H ((x, .ins (He.ga K "Sort") dx []) :: (dx, .own x) :: R) D) (ok : s.Ok) (q : ∀ H' D', HI H' R D' → Ex D D' → IsSrt K D' x s → P H') :
    spSortInit K [.ref x, .str s.nm, .str s.kn, .int s.n, .int s.k, .int s.b] H (fun v H2 => v = .non ∧ P H2) E := by
  refine make_srt hI (Th.str ok.nm.txt).m (Th.str ok.kn.txt).m (Th.kn (.int _)).m (Th.kn (.int _)).m (Th.kn (.int _)).m (fun u H' D' h1 h2 h3 e1 e2 e3 e4 e5 => ?_) (fun C v h => ?_)
  · obtain ⟨n, k, i, j, l⟩ := u
    obtain ⟨n', k', i', j', l'⟩ := s
    cases e1; cases e2; cases e3; cases e4; cases e5
    exact q _ _ h1 h2 h3
  · rw [sort_good' ok] at h
    cases h
/-- a row -/
structure Rw' where
  s : Srt
  w : Int
  h : Int
deriving DecidableEq
structure Rw'.Ok (r : Rw') : Prop where
  w0 : 1 ≤ r.w
  w1 : r.w ≤ 52
  h0 : 1 ≤ r.h
  h1 : r.h ≤ 1000
def rowF (sa : Addr) (w h : Int) : List (Str × V) := [("kept_sort", .ref sa), ("kept_week", .int w), ("kept_heads", .int h)]
def IsRow (K : PySem.W.Frag) (D : Hp) (a : Addr) (r : Rw') : Prop := r.Ok ∧ ∃ dx sa, D a = some (.ins (He.ga K "Row") dx (rowF sa r.w r.h)) ∧ IsSrt K D sa r.s
theorem IsRow.mono {K : PySem.W.Frag} {D D' : Hp} {a : Addr} {r : Rw'} (h : IsRow K D a r) (x : Ex D D') : IsRow K D' a r := by
  obtain ⟨o, dx, sa, e, i⟩ := h
  exact ⟨o, dx, sa, x _ _ e, i.mono x⟩
theorem IsRow.ty {K : PySem.W.Frag} {D : Hp} {a : Addr} {r : Rw'} (i : InsC K (He.ga K "Row")) (h : IsRow K D a r) : Ty K D (.ref a) (.ref (He.ga K "Row")) := by
  obtain ⟨_, dx, sa, e, _⟩ := h
  exact .o (.ins e i)
/-- the refusal that is due of what a row is made of -/
def rowBad (K : PySem.W.Frag) (isS : Bool) (v w h : V) : Option (Addr × V) := if isS = false then some (He.ga K "NoSort", v) else if wholeB w 1 52 = false then some (He.ga K "NoWeek", w) else if wholeB h 1 1000 = false then some (He.ga K "NoNumber", h) else none
/-- a sort, or what is none -/
def SortOr (K : PySem.W.Frag) (R : Cells) (D : Hp) (isS : Bool) (v : V) : Prop := (isS = true → ∃ sa s, v = .ref sa ∧ IsSrt K D sa s) ∧ (isS = false → ∃ t, TyC K R D v t ∧ PySem.W.kitOne K t (.ref (He.ga K "Sort")) = some false)
theorem SortOr.sub {K : PySem.W.Frag} {R R' : Cells} {D : Hp} {isS : Bool} {v : V} (h : SortOr K R D isS v) (s : ∀ q ∈ R, q ∈ R') : SortOr K R' D isS v := ⟨h.1, fun e => let ⟨t, a, b⟩ := h.2 e; ⟨t, a.sub s, b⟩⟩
theorem SortOr.mono {K : PySem.W.Frag} {R : Cells} {D D' : Hp} {isS : Bool} {v : V} (h : SortOr K R D isS v) (x : Ex D D') : SortOr K R D' isS v :=
  ⟨fun e => let ⟨sa, s, a, b⟩ := h.1 e; ⟨sa, s, a, b.mono x⟩, fun e => let ⟨t, a, b⟩ := h.2 e; ⟨t, a.mono x, b⟩⟩
def spRowInit (K : PySem.W.Frag) : Sp := fun vs H Q E => ∃ (x dx : Addr) (isS : Bool) (v w h : V) (R : Cells) (D : Hp), vs = [.ref x, v, w, h] ∧ HI H ((x, .ins (He.ga K "Row") dx []) :: R) D ∧ SortOr K ((x, .ins (He.ga K "Row") dx []) :: R) D isS v ∧ Mt K ((x, .ins (He.ga K "Row") dx []) :: R) D w ∧ Mt K ((x, .ins (He.ga K "Row") dx []) :: R) D h ∧
  (rowBad K isS v w h = none → ∀ H', HI H' ((x, .ins (He.ga K "Row") dx [("kept_sort", v), ("kept_week", w), ("kept_heads", h)]) :: R) D → Q .non H') ∧ (∀ C u, rowBad K isS v w h = some (C, u) → Outs E C u ((x, .ins (He.ga K "Row") dx []) :: R) D)
set_option maxHeartbeats 1000000 in
theorem ok_Row_init {P : Program} {w : World} {K : PySem.W.Frag} {mg : Str → Option Value} {base : Heap} (T : Tx K mg) : FnG P w K mg base 4 (a_Row_init K) ["self", "sort", "week", "heads"] (spRowInit K) := by
  refine T.f_Row_init.ok sc_Row_init (fun vs H Q E h => ?_) (fun cdv A outer s H vs Q E hgu hr h => ⟨_, (pss_cons (ps_if (pt_not (pt_val (pe_callB (show CallR _ (.builtin "isinstance") (RIsiC K) from call_isiC) (by rfl) T.n_isinstance boot_isinstance (pa_cons (pv 1) (pa_cons (pe_glob (v := .ref (He.ga K "Sort")) rfl T.g_Sort rfl) pa_nil))))) (pss_one (ps_raiseX rfl (takes_of rfl rfl rfl rfl) T.x_NoSort (ok_NoSort_init T) T.b_NoSort_init (hr.mono (by decide)) rfl (pa_cons (pv 1) pa_nil))) pss_nil)
 (pss_cons (ps_if (pt_not (pt_val (ge_call (ok_is_whole T) hgu (hr.mono (by decide)) rfl T.g_is_whole T.k_is_whole T.b_is_whole .nil (fun _ => pass_takes (takes_of rfl rfl rfl rfl)) (pa_cons (pv 2) (pa_cons pe_int (pa_cons (pe_gi rfl T.c_LAST_WEEK_rows) pa_nil)))))) (pss_one (ps_raiseX rfl (takes_of rfl rfl rfl rfl) T.x_NoWeek (ok_NoWeek_init T) T.b_NoWeek_init (hr.mono (by decide)) rfl (pa_cons (pv 2) pa_nil))) pss_nil)
 (pss_cons (ps_if (pt_not (pt_val (ge_call (ok_is_whole T) hgu (hr.mono (by decide)) rfl T.g_is_whole T.k_is_whole T.b_is_whole .nil (fun _ => pass_takes (takes_of rfl rfl rfl rfl)) (pa_cons (pv 3) (pa_cons pe_int (pa_cons (pe_gi rfl T.c_MOST_HEADS) pa_nil)))))) (pss_one (ps_raiseX rfl (takes_of rfl rfl rfl rfl) T.x_NoNumber (ok_NoNumber_init T) T.b_NoNumber_init (hr.mono (by decide)) rfl (pa_cons (pv 3) pa_nil))) pss_nil)
 (pss_cons (ps_fld (pv 0) (pv 1) rfl)
 (pss_cons (ps_fld (pv 0) (pv 2) rfl)
 (pss_one (ps_fld (pv 0) (pv 3) rfl))))))), ?_⟩)
  · obtain ⟨x, dx, isS, v, w, h, R, D, rfl, _⟩ := h
    rfl
  · obtain ⟨x, dx, isS, v, w, h, R, D, rfl, hI, so, mw, mh, good, bad⟩ := h
    have pc := T.pc_Row
    unfold rowBad at good bad
    wtm_at "go"
    wtm_at "sg"
    cases isS with
    | false =>
      obtain ⟨t, ty, kt⟩ := so.2 rfl
      rw [if_pos rfl] at bad
      refine RIsiC.ty (ty.ty hI) kt ?_
      wtm_at "sg"
      exact bad _ _ rfl _ _ _ (by assumption) (by wtm_at "ex") (by wtm_at "dat")
    | true =>
      obtain ⟨sa, s, rfl, is⟩ := so.1 rfl
      rw [if_neg (by decide)] at good bad
      refine RIsiC.ty ((is.ty T.in_Sort).mono hI.sub) T.ki_Sort_Sort ?_
      wtm_at "sg"
      refine whole_use hI mw (fun H1 hI1 => ?_)
      wtm_at "sg"
      cases hw : wholeB w 1 52 with
      | false =>
        rw [if_pos hw] at bad
        wtm_at "sg"
        exact bad _ _ rfl _ _ _ (by assumption) (by wtm_at "ex") (by wtm_at "dat")
      | true =>
        rw [if_neg (by rw [hw]; decide)] at good bad
        wtm_at "sg"
        refine whole_use hI1 mh (fun H2 hI2 => ?_)
        wtm_at "sg"
        cases hh : wholeB h 1 1000 with
        | false =>
          rw [if_pos hh] at bad
          wtm_at "sg"
          exact bad _ _ rfl _ _ _ (by assumption) (by wtm_at "ex") (by wtm_at "dat")
        | true =>
          rw [if_neg (by rw [hh]; decide)] at good
          wtm_at "sg"
          exact good rfl _ (by assumption)
theorem make_rowG {K : PySem.W.Frag} {x dx : Addr} {isS : Bool} {v w h : V} {R : Cells} {D H : Hp} {P : Hp → Prop} {E : XK} (hI : HI H ((x, .ins (He.ga K "Row") dx []) :: (dx, .own x) :: R) D) (so : SortOr K R D isS v) (mw : Mt K R D w) (mh : Mt K R D h)
    (good : isS = true → ∀ sa s wi hi H' D', HI H' R D' → Ex D D' → v = .ref sa → IsSrt K D' sa s → w = .int wi → h = .int hi → IsRow K D' x ⟨s, wi, hi⟩ → P H') (bad : ∀ C u, rowBad K isS v w h = some (C, u) → Outs E C u R D) : spRowInit K [.ref x, v, w, h] H (fun v H2 => v = .non ∧ P H2) E := by
  refine ⟨x, dx, isS, v, w, h, _, D, rfl, hI, so.sub fun q hq => List.mem_cons_of_mem _ (List.mem_cons_of_mem _ hq), mw.cell.cell, mh.cell.cell, fun hn H' h' => ⟨rfl, ?_⟩, fun C u e => (bad C u e).cell.cell⟩
  cases isS with
  | false => unfold rowBad at hn; rw [if_pos rfl] at hn; cases hn
  | true =>
    unfold rowBad at hn
    rw [if_neg (by decide)] at hn
    cases hw : wholeB w 1 52 with
    | false => rw [if_pos hw] at hn; cases hn
    | true =>
      rw [if_neg (by rw [hw]; decide)] at hn
      cases hh : wholeB h 1 1000 with
      | false => rw [if_pos hh] at hn; cases hn
      | true =>
        obtain ⟨wi, rfl, w0, w1⟩ := whole_is hw
        obtain ⟨hi, rfl, h0, h1⟩ := whole_is hh
        obtain ⟨sa, s, rfl, is⟩ := so.1 rfl
        obtain ⟨D2, h3, x2, e2⟩ := h'.freezeI
        exact good rfl sa s wi hi _ _ h3 x2 rfl (is.mono x2) rfl rfl ⟨⟨w0, w1, h0, h1⟩, dx, sa, e2, is.mono x2⟩
theorem make_row {K : PySem.W.Frag} {x dx sa : Addr} {w h : Int} {s : Srt} {R : Cells} {D H : Hp} {P : Hp → Prop} {E : XK} (hI : HI H ((x, .ins (He.ga K "Row") dx []) :: (dx, .own x) :: R) D) (is : IsSrt K D sa s) (w0 : 1 ≤ w) (w1 : w ≤ 52) (h0 : 1 ≤ h) (h1 : h ≤ 1000)
    (go : ∀ H' D', HI H' R D' → Ex D D' → IsRow K D' x ⟨s, w, h⟩ → P H') : spRowInit K [.ref x, .ref sa, .int w, .int h] H (fun v H2 => v = .non ∧ P H2) E := by
  refine ⟨x, dx, true, _, _, _, _, D, rfl, hI, ⟨fun _ => ⟨sa, s, rfl, is⟩, fun e => nomatch e⟩, (Th.kn (.int _)).m, (Th.kn (.int _)).m, fun _ H' h' => ⟨rfl, ?_⟩, fun C u e => ?_⟩
  · obtain ⟨D2, h3, x2, e2⟩ := h'.freezeI
    exact go _ _ h3 x2 ⟨⟨w0, w1, h0, h1⟩, dx, sa, e2, is.mono x2⟩
  · unfold rowBad at e
    rw [whole_ok w0 w1, whole_ok h0 h1] at e
    cases e
def spRSort (K : PySem.W.Frag) : Sp := fun vs H Q _ => ∃ (a : Addr) (r : Rw') (R : Cells) (D : Hp), vs = [.ref a] ∧ HI H R D ∧ IsRow K D a r ∧ ∀ sa, IsSrt K D sa r.s → Q (.ref sa) H
theorem rsort_use {K : PySem.W.Frag} {a : Addr} {r : Rw'} {R : Cells} {D H : Hp} {Q : VK} {E : XK} (h : HI H R D) (i : IsRow K D a r) (q : ∀ sa, IsSrt K D sa r.s → Q (.ref sa) H) : spRSort K [.ref a] H Q E := ⟨a, r, R, D, rfl, h, i, q⟩
theorem ok_Row_of_sort {P : Program} {w : World} {K : PySem.W.Frag} {mg : Str → Option Value} {base : Heap} (T : Tx K mg) : FnG P w K mg base 1 (a_Row_of_sort K) ["self"] (spRSort K) := by
  refine T.f_Row_of_sort.ok sc_Row_of_sort (fun vs H Q E h => ?_) (fun cdv A outer s H vs Q E hgu hr h => ⟨_, (pss_one (ps_ret (pe_fld (pv 0) rfl))), ?_⟩)
  · obtain ⟨a, r, R, D, rfl, _⟩ := h
    rfl
  · obtain ⟨a, r, R, D, rfl, hI, ⟨ok, dx, sa, ea, is⟩, go⟩ := h
    have pc := T.pc_Row
    unfold rowF at ea
    wtm_at "go"
    wtm_at "sg"
    exact go _ is
def spRInt (K : PySem.W.Frag) (g : Rw' → Int) : Sp := fun vs H Q _ => ∃ (a : Addr) (r : Rw') (R : Cells) (D : Hp), vs = [.ref a] ∧ HI H R D ∧ IsRow K D a r ∧ Q (.int (g r)) H
theorem rint_use {K : PySem.W.Frag} {g : Rw' → Int} {a : Addr} {r : Rw'} {R : Cells} {D H : Hp} {Q : VK} {E : XK} (h : HI H R D) (i : IsRow K D a r) (q : Q (.int (g r)) H) : spRInt K g [.ref a] H Q E := ⟨a, r, R, D, rfl, h, i, q⟩
theorem ok_Row_week {P : Program} {w : World} {K : PySem.W.Frag} {mg : Str → Option Value} {base : Heap} (T : Tx K mg) : FnG P w K mg base 1 (a_Row_week K) ["self"] (spRInt K Rw'.w) := by
  refine T.f_Row_week.ok sc_Row_week (fun vs H Q E h => ?_) (fun cdv A outer s H vs Q E hgu hr h => ⟨_, (pss_one (ps_ret (pe_fld (pv 0) rfl))), ?_⟩)
  · obtain ⟨a, r, R, D, rfl, _⟩ := h
    rfl
  · obtain ⟨a, r, R, D, rfl, hI, ⟨ok, dx, sa, ea, is⟩, go⟩ := h
    have pc := T.pc_Row
    unfold rowF at ea
    wtm_at "go"
    wtm_at "sg"
    exact go
theorem ok_Row_heads {P : Program} {w : World} {K : PySem.W.Frag} {mg : Str → Option Value} {base : Heap} (T : Tx K mg) : FnG P w K mg base 1 (a_Row_heads K) ["self"] (spRInt K Rw'.h) := by
  refine T.f_Row_heads.ok sc_Row_heads (fun vs H Q E h => ?_) (fun cdv A outer s H vs Q E hgu hr h => ⟨_, (pss_one (ps_ret (pe_fld (pv 0) rfl))), ?_⟩)
  · obtain ⟨a, r, R, D, rfl, _⟩ := h
    rfl
  · obtain ⟨a, r, R, D, rfl, hI, ⟨ok, dx, sa, ea, is⟩, go⟩ := h
    have pc := T.pc_Row
    unfold rowF at ea
    wtm_at "go"
    wtm_at "sg"
    exact go
section
variable {K : PySem.W.Frag} {mg : Str → Option Value} {H D : Hp} {R : Cells} {a b : Addr} {s u : Srt} {y : V} {Q : VK}
/-- a value of a plain kind -/
def Pk (K : PySem.W.Frag) (D : Hp) (y : V) : Prop := ∃ k n, Kn K D y k ∧ n ∈ seven ∧ k.tn = some n
theorem Pk.of {k : Knd} {n : String} (h : Kn K D y k) (hn : n ∈ seven := by decide +kernel) (e : k.tn = some n := by rfl) : Pk K D y := ⟨k, n, h, hn, e⟩
theorem Pk.non : Pk K D .non := ⟨.non, "NoneType", .non, by decide +kernel, rfl⟩
theorem Pk.bl (b : Bool) : Pk K D (.bl b) := ⟨.bl, "bool", .bl b, by decide +kernel, rfl⟩
theorem Pk.int (i : Int) : Pk K D (.int i) := ⟨.int, "int", .int i, by decide +kernel, rfl⟩
theorem Pk.str (z : Str) : Pk K D (.str z) := ⟨.str, "str", .str z, by decide +kernel, rfl⟩
theorem Pk.lst {p : Addr} {xs : List V} (e : D p = some (.lst xs)) : Pk K D (.ref p) := ⟨.lst, "list", .lst e, by decide +kernel, rfl⟩
theorem Pk.tup {p : Addr} {xs : List V} (e : D p = some (.tup xs)) : Pk K D (.ref p) := ⟨.tup, "tuple", .tup e, by decide +kernel, rfl⟩
theorem Pk.dict {p : Addr} {xs : List (Key × V)} (e : D p = some (.dK xs)) : Pk K D (.ref p) := ⟨.dict, "dict", .dict e, by decide +kernel, rfl⟩
theorem Pk.mono {D' : Hp} (h : Pk K D y) (x : Ex D D') : Pk K D' y := by
  obtain ⟨k, n, a, b, c⟩ := h
  exact ⟨k, n, a.mono x, b, c⟩
end
def Srt.p (s : Srt) : PyData := .list [.str s.nm, .str s.kn, .int s.n, .int s.k, .int s.b]
theorem srt_inj {K : PySem.W.Frag} {D : Hp} {a : Addr} {s u : Srt} (h1 : IsSrt K D a s) (h2 : IsSrt K D a u) : s = u := by
  obtain ⟨_, d1, e1⟩ := h1
  obtain ⟨_, d2, e2⟩ := h2
  rw [e1] at e2
  have q := Option.some.inj e2
  injection q with _ _ q3
  obtain ⟨a, b, c, d, e⟩ := s
  obtain ⟨f, g, h, i, j⟩ := u
  simp [Srt.f, sortF] at q3
  obtain ⟨q1, q2, q3, q4, q5⟩ := q3
  rw [q1, q2, q3, q4, q5]
/-- so many weeks later -/
def spLater (K : PySem.W.Frag) : Sp := fun vs H Q E => ∃ (a : Addr) (r : Rw') (v : V) (R : Cells) (D : Hp), vs = [.ref a, v] ∧ HI H R D ∧ IsRow K D a r ∧ Mt K R D v ∧
  (∀ k, v = .int k → 0 ≤ k → k ≤ 51 → r.w + k ≤ 52 → ∀ b H' D', HI H' R D' → Ex D D' → IsRow K D' b ⟨r.s, r.w + k, r.h⟩ → Q (.ref b) H') ∧
  (wholeB v 0 51 = false → Outs E (He.ga K "NoNumber") v R D) ∧ (∀ k, v = .int k → 0 ≤ k → k ≤ 51 → 52 < r.w + k → Outs E (He.ga K "NoWeek") (.int (r.w + k)) R D)
set_option maxHeartbeats 1000000 in
theorem ok_Row_later {P : Program} {w : World} {K : PySem.W.Frag} {mg : Str → Option Value} {base : Heap} (T : Tx K mg) : FnG P w K mg base 6 (a_Row_later K) ["self", "many"] (spLater K) := by
  refine T.f_Row_later.ok sc_Row_later (fun vs H Q E h => ?_) (fun cdv A outer s H vs Q E hgu hr h => ⟨_, (pss_cons (ps_if (pt_not (pt_val (ge_call (ok_is_whole T) hgu (hr.mono (by decide)) rfl T.g_is_whole T.k_is_whole T.b_is_whole .nil (fun _ => pass_takes (takes_of rfl rfl rfl rfl)) (pa_cons (pv 1) (pa_cons pe_int (pa_cons (pe_op op_sub (pe_gi rfl T.c_LAST_WEEK_rows) pe_int) pa_nil)))))) (pss_one (ps_raiseX rfl (takes_of rfl rfl rfl rfl) T.x_NoNumber (ok_NoNumber_init T) T.b_NoNumber_init (hr.mono (by decide)) rfl (pa_cons (pv 1) pa_nil))) pss_nil)
 (pss_one (ps_ret (ge_makeN T.mk_Row (ok_Row_init T) hgu (hr.mono (by decide)) rfl T.g_Row T.kb_Row_init_4 (fun _ => pass_takes (takes_of rfl rfl rfl rfl)) (pa_cons (pe_fld (pv 0) rfl) (pa_cons (pe_op op_addU (pe_fld (pv 0) rfl) (pv 1)) (pa_cons (pe_fld (pv 0) rfl) pa_nil))) pk_nil)))), ?_⟩)
  · obtain ⟨a, r, v, R, D, rfl, _⟩ := h
    rfl
  · obtain ⟨a, r, v, R, D, rfl, hI, ir, mv, good, bad1, bad2⟩ := h
    obtain ⟨ok, dx, sa, ea, is⟩ := id ir
    obtain ⟨w0, w1, h0, h1⟩ := ok
    have pc := T.pc_Row
    unfold rowF at ea
    wtm_at "go"
    wtm_at "sg"
    refine whole_use hI mv (fun H1 hI1 => ?_)
    wtm_at "sg"
    rw [show (52 : Int) - 1 = 51 from rfl]
    cases hv : wholeB v 0 51 with
    | false =>
      wtm_at "sg"
      exact bad1 hv _ _ _ (by assumption) (by wtm_at "ex") (by wtm_at "dat")
    | true =>
      obtain ⟨k, rfl, k0, k1⟩ := whole_is hv
      wtm_at "sg"
      refine make_rowG (isS := true) (by assumption) ⟨fun _ => ⟨sa, r.s, rfl, is⟩, fun e => nomatch e⟩ (Th.kn (.int _)).m (Th.kn (.int _)).m (fun _ sa' s' wi hi H2 D2 hI2 x2 e1 is2 e2 e3 ir2 => ?_) (fun C u hb => ?_)
      · cases e1
        cases e2
        cases e3
        have es : s' = r.s := srt_inj is2 (is.mono x2)
        subst es
        exact good k rfl k0 k1 ir2.1.w1 _ _ _ hI2 x2 ir2
      · have hb' := hb
        unfold rowBad at hb'
        rw [if_neg (by decide)] at hb'
        by_cases h5 : r.w + k ≤ 52
        · rw [whole_ok (by omega) h5, if_neg (by decide), whole_ok h0 h1, if_neg (by decide)] at hb'
          cases hb'
        · have hw : wholeB (.int (r.w + k)) 1 52 = false := by
            cases q : wholeB (.int (r.w + k)) 1 52 with
            | false => rfl
            | true =>
              obtain ⟨i, e, _, i1⟩ := whole_is q
              cases e
              omega
          rw [if_pos hw] at hb'
          cases hb'
          exact bad2 k rfl k0 k1 (by omega)
theorem later_use {K : PySem.W.Frag} {a : Addr} {r : Rw'} {k : Int} {R : Cells} {D H : Hp} {Q : VK} {E : XK} (hI : HI H R D) (i : IsRow K D a r) (k0 : 0 ≤ k) (k1 : k ≤ 51) (hk : r.w + k ≤ 52) (q : ∀ b H' D', HI H' R D' → Ex D D' → IsRow K D' b ⟨r.s, r.w + k, r.h⟩ → Q (.ref b) H') : spLater K [.ref a, .int k] H Q E :=
  ⟨a, r, .int k, R, D, rfl, hI, i, (Th.kn (.int _)).m, fun j e _ _ _ => by cases e; exact q, (fun h => by rw [whole_ok k0 k1] at h; cases h), fun j e _ _ h => by cases e; omega⟩
structure Sta where
  r : Rw'
  u : Int
deriving DecidableEq
structure Sta.Ok (t : Sta) : Prop where
  u0 : t.r.w ≤ t.u
  u1 : t.u ≤ 52
def IsStay (K : PySem.W.Frag) (D : Hp) (a : Addr) (t : Sta) : Prop := t.Ok ∧ ∃ dx ra, D a = some (.ins (He.ga K "Stay") dx [("bedded", .ref ra), ("until", .int t.u)]) ∧ IsRow K D ra t.r
theorem IsStay.mono {K : PySem.W.Frag} {D D' : Hp} {a : Addr} {t : Sta} (h : IsStay K D a t) (x : Ex D D') : IsStay K D' a t := by
  obtain ⟨o, dx, ra, e, i⟩ := h
  exact ⟨o, dx, ra, x _ _ e, i.mono x⟩
theorem IsStay.ty {K : PySem.W.Frag} {D : Hp} {a : Addr} {t : Sta} (i : InsC K (He.ga K "Stay")) (h : IsStay K D a t) : Ty K D (.ref a) (.ref (He.ga K "Stay")) := by
  obtain ⟨_, dx, ra, e, _⟩ := h
  exact .o (.ins e i)
/-- a row, or what is none -/
def RowOr (K : PySem.W.Frag) (D : Hp) (v : V) : Option (Addr × Rw') → Prop
  | some p => v = .ref p.1 ∧ IsRow K D p.1 p.2
  | none => ∃ t, Ty K D v t ∧ PySem.W.kitOne K t (.ref (He.ga K "Row")) = some false
theorem RowOr.mono {K : PySem.W.Frag} {D D' : Hp} {v : V} {o : Option (Addr × Rw')} (h : RowOr K D v o) (x : Ex D D') : RowOr K D' v o := by
  cases o with
  | some p => exact ⟨h.1, h.2.mono x⟩
  | none =>
    obtain ⟨t, a, b⟩ := h
    exact ⟨t, a.mono x, b⟩
def stayBad (K : PySem.W.Frag) (o : Option (Addr × Rw')) (v l : V) : Option (Addr × V) := match o with
  | none => some (He.ga K "NoRow", v)
  | some p => if wholeB l p.2.w 52 = false then some (He.ga K "NoWeek", l) else none
def spStayInit (K : PySem.W.Frag) : Sp := fun vs H Q E => ∃ (x dx : Addr) (o : Option (Addr × Rw')) (v l : V) (R : Cells) (D : Hp), vs = [.ref x, v, l] ∧ HI H ((x, .ins (He.ga K "Stay") dx []) :: R) D ∧ RowOr K D v o ∧ Mt K ((x, .ins (He.ga K "Stay") dx []) :: R) D l ∧
  (stayBad K o v l = none → ∀ H', HI H' ((x, .ins (He.ga K "Stay") dx [("bedded", v), ("until", l)]) :: R) D → Q .non H') ∧ (∀ C u, stayBad K o v l = some (C, u) → Outs E C u ((x, .ins (He.ga K "Stay") dx []) :: R) D)
set_option maxHeartbeats 1000000 in
theorem ok_Stay_init {P : Program} {w : World} {K : PySem.W.Frag} {mg : Str → Option Value} {base : Heap} (T : Tx K mg) : FnG P w K mg base 4 (a_Stay_init K) ["self", "row", "last"] (spStayInit K) := by
  refine T.f_Stay_init.ok sc_Stay_init (fun vs H Q E h => ?_) (fun cdv A outer s H vs Q E hgu hr h => ⟨_, (pss_cons (ps_if (pt_not (pt_val (pe_callB (show CallR _ (.builtin "isinstance") (RIsiC K) from call_isiC) (by rfl) T.n_isinstance boot_isinstance (pa_cons (pv 1) (pa_cons (pe_glob (v := .ref (He.ga K "Row")) rfl T.g_Row rfl) pa_nil))))) (pss_one (ps_raiseX rfl (takes_of rfl rfl rfl rfl) T.x_NoRow (ok_NoRow_init T) T.b_NoRow_init (hr.mono (by decide)) rfl (pa_cons (pv 1) pa_nil))) pss_nil)
 (pss_cons (ps_if (pt_not (pt_val (ge_call (ok_is_whole T) hgu (hr.mono (by decide)) rfl T.g_is_whole T.k_is_whole T.b_is_whole .nil (fun _ => pass_takes (takes_of rfl rfl rfl rfl)) (pa_cons (pv 2) (pa_cons (ge_meth0 (pv 1) T.cl_Row T.m_Row_week (ok_Row_week T) hgu (hr.mono (by decide)) T.b_Row_week .nil (fun _ => pass_takes (takes_of rfl rfl rfl rfl))) (pa_cons (pe_gi rfl T.c_LAST_WEEK_stays) pa_nil)))))) (pss_one (ps_raiseX rfl (takes_of rfl rfl rfl rfl) T.x_NoWeek (ok_NoWeek_init T) T.b_NoWeek_init (hr.mono (by decide)) rfl (pa_cons (pv 2) pa_nil))) pss_nil)
 (pss_cons (ps_fld (pv 0) (pv 1) rfl)
 (pss_one (ps_fld (pv 0) (pv 2) rfl))))), ?_⟩)
  · obtain ⟨x, dx, o, v, l, R, D, rfl, _⟩ := h
    rfl
  · obtain ⟨x, dx, o, v, l, R, D, rfl, hI, ro, ml, good, bad⟩ := h
    have pc := T.pc_Stay
    wtm_at "go"
    wtm_at "sg"
    cases o with
    | none =>
      obtain ⟨t, ty, kt⟩ := ro
      refine RIsiC.ty (ty.mono hI.sub) kt ?_
      wtm_at "sg"
      exact bad _ _ rfl _ _ _ (by assumption) (by wtm_at "ex") (by wtm_at "dat")
    | some p =>
      obtain ⟨rfl, ir⟩ := ro
      obtain ⟨ok, dr, sa, er, is⟩ := id ir
      refine RIsiC.ty ((ir.ty T.in_Row).mono hI.sub) T.ki_Row_Row ?_
      wtm_at "sg"
      refine rint_use hI ir ?_
      wtm_at "sg"
      refine whole_use hI ml (fun H1 hI1 => ?_)
      wtm_at "sg"
      cases hw : wholeB l p.2.w 52 with
      | false =>
        have hb : stayBad K (some p) (.ref p.1) l = some (He.ga K "NoWeek", l) := if_pos hw
        wtm_at "sg"
        exact bad _ _ hb _ _ _ (by assumption) (by wtm_at "ex") (by wtm_at "dat")
      | true =>
        have hb : stayBad K (some p) (.ref p.1) l = none := if_neg (by rw [hw]; decide)
        wtm_at "sg"
        exact good hb _ (by assumption)
theorem make_stayG {K : PySem.W.Frag} {x dx : Addr} {o : Option (Addr × Rw')} {v l : V} {R : Cells} {D H : Hp} {P : Hp → Prop} {E : XK} (hI : HI H ((x, .ins (He.ga K "Stay") dx []) :: (dx, .own x) :: R) D) (ro : RowOr K D v o) (ml : Mt K R D l)
    (good : ∀ p u H' D', HI H' R D' → Ex D D' → o = some p → l = .int u → IsStay K D' x ⟨p.2, u⟩ → P H') (bad : ∀ C u, stayBad K o v l = some (C, u) → Outs E C u R D) : spStayInit K [.ref x, v, l] H (fun v H2 => v = .non ∧ P H2) E := by
  refine ⟨x, dx, o, v, l, _, D, rfl, hI, ro, ml.cell.cell, fun hn H' h' => ⟨rfl, ?_⟩, fun C u e => (bad C u e).cell.cell⟩
  cases o with
  | none => cases hn
  | some p =>
    cases hw : wholeB l p.2.w 52 with
    | false => rw [show stayBad K (some p) v l = some (He.ga K "NoWeek", l) from if_pos hw] at hn; cases hn
    | true =>
      obtain ⟨u, rfl, u0, u1⟩ := whole_is hw
      obtain ⟨rfl, ir⟩ := ro
      obtain ⟨D2, h3, x2, e2⟩ := h'.freezeI
      exact good p u _ _ h3 x2 rfl rfl ⟨⟨u0, u1⟩, dx, p.1, e2, ir.mono x2⟩
theorem make_stay {K : PySem.W.Frag} {x dx ra : Addr} {r : Rw'} {u : Int} {R : Cells} {D H : Hp} {P : Hp → Prop} {E : XK} (hI : HI H ((x, .ins (He.ga K "Stay") dx []) :: (dx, .own x) :: R) D) (ir : IsRow K D ra r) (u0 : r.w ≤ u) (u1 : u ≤ 52)
    (go : ∀ H' D', HI H' R D' → Ex D D' → IsStay K D' x ⟨r, u⟩ → P H') : spStayInit K [.ref x, .ref ra, .int u] H (fun v H2 => v = .non ∧ P H2) E :=
  make_stayG (o := some (ra, r)) hI ⟨rfl, ir⟩ (Th.kn (.int _)).m (fun p u' H' D' h x2 e1 e2 i => by cases e1; cases e2; exact go _ _ h x2 i) (fun C w e => by
    rw [show stayBad K (some (ra, r)) (.ref ra) (.int u) = none from if_neg (by rw [whole_ok u0 u1]; decide)] at e
    cases e)
def spTInt (K : PySem.W.Frag) (g : Sta → V) : Sp := fun vs H Q _ => ∃ (a : Addr) (t : Sta) (R : Cells) (D : Hp), vs = [.ref a] ∧ HI H R D ∧ IsStay K D a t ∧ Q (g t) H
theorem tint_use {K : PySem.W.Frag} {g : Sta → V} {a : Addr} {t : Sta} {R : Cells} {D H : Hp} {Q : VK} {E : XK} (h : HI H R D) (i : IsStay K D a t) (q : Q (g t) H) : spTInt K g [.ref a] H Q E := ⟨a, t, R, D, rfl, h, i, q⟩
theorem ok_Stay_first {P : Program} {w : World} {K : PySem.W.Frag} {mg : Str → Option Value} {base : Heap} (T : Tx K mg) : FnG P w K mg base 2 (a_Stay_first K) ["self"] (spTInt K fun t => .int t.r.w) := by
  refine T.f_Stay_first.ok sc_Stay_first (fun vs H Q E h => ?_) (fun cdv A outer s H vs Q E hgu hr h => ⟨_, (pss_one (ps_ret (ge_meth0 (pe_fld (pv 0) rfl) T.cl_Row T.m_Row_week (ok_Row_week T) hgu (hr.mono (by decide)) T.b_Row_week .nil (fun _ => pass_takes (takes_of rfl rfl rfl rfl))))), ?_⟩)
  · obtain ⟨a, t, R, D, rfl, _⟩ := h
    rfl
  · obtain ⟨a, t, R, D, rfl, hI, ⟨ok, dx, ra, ea, ir⟩, go⟩ := h
    have pc := T.pc_Stay
    obtain ⟨rok, dr, sa, er, is⟩ := id ir
    wtm_at "go"
    wtm_at "sg"
    exact rint_use hI ir go
theorem ok_Stay_last {P : Program} {w : World} {K : PySem.W.Frag} {mg : Str → Option Value} {base : Heap} (T : Tx K mg) : FnG P w K mg base 1 (a_Stay_last K) ["self"] (spTInt K fun t => .int t.u) := by
  refine T.f_Stay_last.ok sc_Stay_last (fun vs H Q E h => ?_) (fun cdv A outer s H vs Q E hgu hr h => ⟨_, (pss_one (ps_ret (pe_fld (pv 0) rfl))), ?_⟩)
  · obtain ⟨a, t, R, D, rfl, _⟩ := h
    rfl
  · obtain ⟨a, t, R, D, rfl, hI, ⟨ok, dx, ra, ea, ir⟩, go⟩ := h
    have pc := T.pc_Stay
    wtm_at "go"
    wtm_at "sg"
    exact go
theorem ok_Stay_kin {P : Program} {w : World} {K : PySem.W.Frag} {mg : Str → Option Value} {base : Heap} (T : Tx K mg) : FnG P w K mg base 2 (a_Stay_kin K) ["self"] (spTInt K fun t => .str t.r.s.kn) := by
  refine T.f_Stay_kin.ok sc_Stay_kin (fun vs H Q E h => ?_) (fun cdv A outer s H vs Q E hgu hr h => ⟨_, (pss_one (ps_ret (ge_meth0 (ge_meth0 (pe_fld (pv 0) rfl) T.cl_Row T.m_Row_of_sort (ok_Row_of_sort T) hgu (hr.mono (by decide)) T.b_Row_of_sort .nil (fun _ => pass_takes (takes_of rfl rfl rfl rfl))) T.cl_Sort T.m_Sort_kin (ok_Sort_kin T) hgu (hr.mono (by decide)) T.b_Sort_kin .nil (fun _ => pass_takes (takes_of rfl rfl rfl rfl))))), ?_⟩)
  · obtain ⟨a, t, R, D, rfl, _⟩ := h
    rfl
  · obtain ⟨a, t, R, D, rfl, hI, ⟨ok, dx, ra, ea, ir⟩, go⟩ := h
    have pc := T.pc_Stay
    obtain ⟨rok, dr, sa, er, is⟩ := id ir
    wtm_at "go"
    wtm_at "sg"
    refine rsort_use hI ir (fun sa2 is2 => ?_)
    obtain ⟨_, ds2, es2⟩ := id is2
    wtm_at "sg"
    exact get_use hI is2 go
def restK (kvs : List (Str × Int)) : List (Key × V) := kvs.map fun q => (Sum.inr q.1, V.int q.2)
inductive RestsAt (D : Hp) : V → Option (List (Str × Int)) → Prop
  | non : RestsAt D .non none
  | dict {p : Addr} {kvs : List (Str × Int)} (e : D p = some (.dK (restK kvs))) (nm : ∀ q ∈ kvs, Nm q.1 ∧ 0 ≤ q.2 ∧ q.2 ≤ 20) (l : kvs.length ≤ 12) : RestsAt D (.ref p) (some kvs)
theorem RestsAt.mono {D D' : Hp} {v : V} {o : Option (List (Str × Int))} (h : RestsAt D v o) (x : Ex D D') : RestsAt D' v o := by
  cases h with
  | non => exact .non
  | dict e nm l => exact .dict (x _ _ e) nm l
def mayF (t u : Sta) (o : Option (List (Str × Int))) : Bool :=
  if t.r.w - u.u - 1 < 0 ∨ t.r.s.kn ≠ u.r.s.kn then decide (0 ≤ t.r.w - u.u - 1) else match o with
  | none => false
  | some kvs => match kvs.lookup t.r.s.kn with
    | none => false
    | some x => decide (x ≤ t.r.w - u.u - 1)
theorem restK_at {z : Str} : ∀ {kvs : List (Str × Int)}, valV (restK kvs) (.inr z) = (kvs.lookup z).map V.int
  | [] => rfl
  | q :: kvs => by
    have ih := restK_at (z := z) (kvs := kvs)
    by_cases e : q.1 = z
    · simp [restK, valV, e, List.lookup]
    · have e2 : (z == q.1) = false := by simp [Ne.symm e]
      simp [restK, valV, List.lookup, e2, e] at ih ⊢
      exact ih
def spAreRestsG : Sp := fun vs H Q _ => ∃ (v : V) (o : Option (List (Str × Int))) (R : Cells) (D : Hp), vs = [v] ∧ HI H R D ∧ RestsAt D v o ∧ ∀ H' D', HI H' R D' → Ex D D' → Q (.bl true) H'
set_option maxHeartbeats 1000000 in
theorem ok_are_rests {P : Program} {w : World} {K : PySem.W.Frag} {mg : Str → Option Value} {base : Heap} (T : Tx K mg) : FnG P w K mg base 2 (a_are_rests K) ["thing"] spAreRestsG := by
  refine T.f_are_rests.ok sc_are_rests (fun vs H Q E h => ?_) (fun cdv A outer s H vs Q E hgu hr h => ⟨_, (pss_cons (ps_if (pt_cmpR op_isU (pv 0) pe_non (nomark _)) (pss_one (ps_ret pe_bl)) pss_nil)
 (pss_cons (ps_if (PW.pt (pw_or (pt_not (pt_val (pe_callB (show CallR _ (.builtin "isinstance") (RIsi K) from call_isiU) (by rfl) T.n_isinstance boot_isinstance (pa_cons (pv 0) (pa_cons (pe_bltn (v := .ty "dict") (by rfl) T.n_dict boot_dict rfl) pa_nil))))) (pw_or1 (pt_cmpR op_gt (pe_callB (call_lenU) (by rfl) T.n_len boot_len (pa_cons (pv 0) pa_nil)) (pe_gi rfl T.c_MOST_KINS) (nomark _))))) (pss_one (ps_ret pe_bl)) pss_nil)
 (pss_one (ps_ret (pe_callB (call_allU rfl) (by rfl) T.n_all boot_all (pa_cons (pe_lock (pe_lc (own := [("kin", 1), ("weeks", 2)]) rfl sc_are_rests.nd (pi_items (pv 0)) (blkOk_by (own := [("kin", 1), ("weeks", 2)]) (N := ["thing", "kin", "weeks"]) (sc := defScope s_are_rests) (by decide +kernel)) (fun _ _ _ _ _ => (pg_tupC (K := K) (n := 2) (by rfl) (pgs_cons (pg_name (i := 1) sc_are_rests.nd rfl (by first | exact Or.inl rfl | exact Or.inr rfl)) (pgs_cons (pg_name (i := 2) sc_are_rests.nd rfl (by first | exact Or.inl rfl | exact Or.inr rfl)) pgs_nil)) (by rfl) (by rfl) rfl)) (fun _ _ _ _ _ => pts_nil) (fun _ _ _ _ _ => (pe_and (ge_call (ok_is_name T) hgu (hr.mono (by decide)) rfl T.g_is_name T.k_is_name T.b_is_name .nil (fun _ => pass_none) (pa_cons (pv 1) pa_nil)) (pe_one (ge_call (ok_is_whole T) hgu (hr.mono (by decide)) rfl T.g_is_whole T.k_is_whole T.b_is_whole .nil (fun _ => pass_none) (pa_cons (pv 2) (pa_cons pe_int (pa_cons (pe_gi rfl T.c_MOST_REST) pa_nil))))))))) pa_nil)))))), ?_⟩)
  · obtain ⟨v, o, R, D, rfl, _⟩ := h
    rfl
  · obtain ⟨v, o, R, D, rfl, hI, ra, go⟩ := h
    cases ra with
    | non =>
      wtm_at "go"
      wtm_at "sm"
      exact go _ _ hI (Ex.refl _)
    | @dict p kvs e nm l =>
      wtm_at "go"
      wtm_at "sm"
      refine RLen.dict (hI.dat e) ?_
      have hlk : (restK kvs).length = kvs.length := by unfold restK; rw [List.length_map]
      rw [hlk]
      wtm_at "sm"
      refine se_lock hI e trivial (fun od H1 hI1 => ?_)
      wtm_at "sm"
      refine items_mk (hI1.get (List.mem_cons_self ..)) ?_
      refine lc_items (fun j acc R' D' => R' = (p, .frz od (.dK (restK kvs))) :: R ∧ Ex (outD D p) D' ∧ acc = (List.replicate j true).map V.bl) hI1 ⟨rfl, Ex.refl _, rfl⟩ (fun j acc R' D' q => ?_) (fun L j acc k v Tt R' D1 D2 H2 hkv hI2 ex2 eT q hl => ?_) (fun L acc R' D' H' hI' q hl => ?_)
      · rw [q.1]
        exact List.mem_cons_self ..
      · obtain ⟨rfl, xq, rfl⟩ := q
        unfold restK at hkv
        rw [List.getElem?_map] at hkv
        obtain ⟨kq, hkq, e2⟩ := Option.map_eq_some_iff.mp hkv
        cases e2
        have hj : j < kvs.length := (List.getElem?_eq_some_iff.mp hkq).1
        obtain ⟨n1, n2, n3⟩ := nm kq (List.mem_of_getElem? hkq)
        have eT' : D2 Tt = some (.tup [.str kq.1, .int kq.2]) := eT
        wtm_at "sm"
        refine name_use hI2 (Th.str n1.txt).m (fun H3 D3 hI3 x3 => ?_)
        rw [n1.is]
        wtm_at "sm"
        refine whole_use hI3 (Th.kn (.int kq.2)).m (fun H4 hI4 => ?_)
        rw [whole_ok n2 n3]
        refine le_mk hI4 ⟨rfl, xq.trans (ex2.trans x3), ?_⟩ hl (by omega)
        rw [List.replicate_succ', List.map_append]
        rfl
      · obtain ⟨rfl, xq, rfl⟩ := q
        obtain ⟨D5, hI5, x5, eL⟩ := hI'.fr1
        refine lock_end (P := fun X => tNil [some (V.ref p), none, none] X fun xs H2 => RAll (V.ref L :: xs) H2 Q) hI5 (xq.trans x5) e (fun H6 D6 hI6 x6 x56 => ?_)
        wtm_at "sm"
        rw [show (List.replicate (restK kvs).length true).all id = true from List.all_eq_true.mpr fun b hb => by rw [List.eq_of_mem_replicate hb]; rfl]
        exact go _ _ hI6 x6
def spNeedRestsG : Sp := fun vs H Q _ => ∃ (v : V) (o : Option (List (Str × Int))) (R : Cells) (D : Hp), vs = [v] ∧ HI H R D ∧ RestsAt D v o ∧ ∀ H' D', HI H' R D' → Ex D D' → Q .non H'
theorem arests_use {v : V} {o : Option (List (Str × Int))} {R : Cells} {D H : Hp} {Q : VK} {E : XK} (hI : HI H R D) (ra : RestsAt D v o) (q : ∀ H' D', HI H' R D' → Ex D D' → Q (.bl true) H') : spAreRestsG ([v] ++ []) H Q E := ⟨v, o, R, D, rfl, hI, ra, q⟩
theorem nrests_use {v : V} {o : Option (List (Str × Int))} {R : Cells} {D H : Hp} {Q : VK} {E : XK} (hI : HI H R D) (ra : RestsAt D v o) (q : ∀ H' D', HI H' R D' → Ex D D' → Q .non H') : spNeedRestsG ([v] ++ []) H Q E := ⟨v, o, R, D, rfl, hI, ra, q⟩
theorem ok_need_rests {P : Program} {w : World} {K : PySem.W.Frag} {mg : Str → Option Value} {base : Heap} (T : Tx K mg) : FnG P w K mg base 4 (a_need_rests K) ["thing"] spNeedRestsG := by
  refine T.f_need_rests.ok sc_need_rests (fun vs H Q E h => ?_) (fun cdv A outer s H vs Q E hgu hr h => ⟨_, (pss_one (ps_if (pt_not (pt_val (ge_call (ok_are_rests T) hgu (hr.mono (by decide)) rfl T.g_are_rests T.k_are_rests T.b_are_rests .nil (fun _ => pass_takes (takes_of rfl rfl rfl rfl)) (pa_cons (pv 0) pa_nil)))) (pss_one (ps_raiseX rfl (takes_of rfl rfl rfl rfl) T.x_NoRests (ok_NoRests_init T) T.b_NoRests_init (hr.mono (by decide)) rfl (pa_cons (pv 0) pa_nil))) pss_nil)), ?_⟩)
  · obtain ⟨v, o, R, D, rfl, _⟩ := h
    rfl
  · obtain ⟨v, o, R, D, rfl, hI, ra, go⟩ := h
    wtm_at "go"
    wtm_at "sm"
    refine arests_use hI ra (fun H1 D1 hI1 x1 => ?_)
    wtm_at "sm"
    exact go _ _ hI1 x1
def spMay (K : PySem.W.Frag) : Sp := fun vs H Q _ => ∃ (a b : Addr) (t u : Sta) (v : V) (o : Option (List (Str × Int))) (R : Cells) (D : Hp), vs = [.ref a, .ref b, v] ∧ HI H R D ∧ IsStay K D a t ∧ IsStay K D b u ∧ RestsAt D v o ∧ Q (.bl (mayF t u o)) H
theorem may_use {K : PySem.W.Frag} {a b : Addr} {t u : Sta} {v : V} {o : Option (List (Str × Int))} {R : Cells} {D H : Hp} {Q : VK} {E : XK} (hI : HI H R D) (it : IsStay K D a t) (iu : IsStay K D b u) (ra : RestsAt D v o) (q : Q (.bl (mayF t u o)) H) : spMay K ([.ref a, .ref b, v] ++ []) H Q E := ⟨a, b, t, u, v, o, R, D, rfl, hI, it, iu, ra, q⟩
set_option maxHeartbeats 1000000 in
theorem ok_may_follow {P : Program} {w : World} {K : PySem.W.Frag} {mg : Str → Option Value} {base : Heap} (T : Tx K mg) : FnG P w K mg base 3 (a_may_follow K) ["stay", "other", "rests"] (spMay K) := by
  refine T.f_may_follow.ok sc_may_follow (fun vs H Q E h => ?_) (fun cdv A outer s H vs Q E hgu hr h => ⟨_, (pss_cons (ps_set (i := 3) sc_may_follow.nd rfl (Or.inl rfl) (pe_op op_sub (pe_op op_sub (ge_meth0 (pv 0) T.cl_Stay T.m_Stay_first (ok_Stay_first T) hgu (hr.mono (by decide)) T.b_Stay_first .nil (fun _ => pass_takes (takes_of rfl rfl rfl rfl))) (ge_meth0 (pv 1) T.cl_Stay T.m_Stay_last (ok_Stay_last T) hgu (hr.mono (by decide)) T.b_Stay_last .nil (fun _ => pass_takes (takes_of rfl rfl rfl rfl)))) pe_int))
 (pss_cons (ps_if (PW.pt (pw_or (pt_cmpR op_lt (pv 3) pe_int (nomark _)) (pw_or1 (pt_cmpR (op_neU hr.units) (ge_meth0 (pv 0) T.cl_Stay T.m_Stay_kin (ok_Stay_kin T) hgu (hr.mono (by decide)) T.b_Stay_kin .nil (fun _ => pass_takes (takes_of rfl rfl rfl rfl))) (ge_meth0 (pv 1) T.cl_Stay T.m_Stay_kin (ok_Stay_kin T) hgu (hr.mono (by decide)) T.b_Stay_kin .nil (fun _ => pass_takes (takes_of rfl rfl rfl rfl))) (nomark _))))) (pss_one (ps_ret (pe_cmpR op_ge (pv 3) pe_int (nomark _)))) pss_nil)
 (pss_one (ps_ret (pe_and (pe_cmpR op_isnU (pv 2) pe_non (nomark _)) (pe_and (pe_cmp (pc_din (by exact hu1 hr) (ge_meth0 (pv 0) T.cl_Stay T.m_Stay_kin (ok_Stay_kin T) hgu (hr.mono (by decide)) T.b_Stay_kin .nil (fun _ => pass_takes (takes_of rfl rfl rfl rfl))) (pv 2))) (pe_one (pe_cmpR op_ge (pv 3) (pe_dget (by exact hu1 hr) (pv 2) (ge_meth0 (pv 0) T.cl_Stay T.m_Stay_kin (ok_Stay_kin T) hgu (hr.mono (by decide)) T.b_Stay_kin .nil (fun _ => pass_takes (takes_of rfl rfl rfl rfl))) (fun _ _ => rfl)) (nomark _))))))))), ?_⟩)
  · obtain ⟨a, b, t, u, v, o, R, D, rfl, _⟩ := h
    rfl
  · obtain ⟨a, b, t, u, v, o, R, D, rfl, hI, it, iu, ra, go⟩ := h
    obtain ⟨tok, dt, rta, et, _⟩ := id it
    obtain ⟨uok, du, rua, eu, _⟩ := id iu
    unfold mayF at go
    wtm_at "go"
    wtm_at "sm"
    refine tint_use hI it ?_
    wtm_at "sm"
    refine tint_use hI iu ?_
    wtm_at "sm"
    by_cases h1 : t.r.w - u.u - 1 < 0
    · rw [if_pos (.inl h1)] at go
      rw [decide_eq_true h1]
      wtm_at "sm"
      exact go
    rw [decide_eq_false h1]
    wtm_at "sm"
    refine tint_use hI it ?_
    wtm_at "sm"
    refine tint_use hI iu ?_
    wtm_at "sm"
    by_cases h2 : t.r.s.kn = u.r.s.kn
    · rw [if_neg (by rintro (z | z); exact h1 z; exact z h2)] at go
      rw [decide_eq_true h2]
      wtm_at "sm"
      cases ra with
      | non =>
        wtm_at "sm"
        exact go
      | @dict p kvs e nm l =>
        wtm_at "sm"
        refine tint_use hI it ?_
        wtm_at "sm"
        rw [restK_at]
        dsimp only at go
        cases hk : kvs.lookup t.r.s.kn with
        | none =>
          rw [hk] at go
          dsimp only [Option.map, Option.isSome] at go ⊢
          wtm_at "sm"
          exact go
        | some x =>
          rw [hk] at go
          dsimp only [Option.map, Option.isSome] at go ⊢
          wtm_at "sm"
          refine tint_use hI it ?_
          wtm_at "sm"
          refine dv_s (v := .int x) (hI.dat e) (by rw [restK_at, hk]; rfl) ?_
          wtm_at "sm"
          exact go
    · rw [if_pos (.inr h2)] at go
      rw [decide_eq_false h2]
      wtm_at "sm"
      exact go
def spBehindG (K : PySem.W.Frag) : Sp := fun vs H Q _ => ∃ (a b : Addr) (t u : Sta) (v : V) (o : Option (List (Str × Int))) (R : Cells) (D : Hp), vs = [.ref a, .ref b, v] ∧ HI H R D ∧ IsStay K D a t ∧ IsStay K D b u ∧ RestsAt D v o ∧ ∀ H' D', HI H' R D' → Ex D D' → Q (.bl (mayF t u o)) H'
theorem behind_use {K : PySem.W.Frag} {a b : Addr} {t u : Sta} {v : V} {o : Option (List (Str × Int))} {R : Cells} {D H : Hp} {Q : VK} {E : XK} (hI : HI H R D) (it : IsStay K D a t) (iu : IsStay K D b u) (ra : RestsAt D v o) (q : ∀ H' D', HI H' R D' → Ex D D' → Q (.bl (mayF t u o)) H') : spBehindG K [.ref a, .ref b, v] H Q E := ⟨a, b, t, u, v, o, R, D, rfl, hI, it, iu, ra, q⟩
set_option maxHeartbeats 1000000 in
theorem ok_Stay_behind {P : Program} {w : World} {K : PySem.W.Frag} {mg : Str → Option Value} {base : Heap} (T : Tx K mg) : FnG P w K mg base 5 (a_Stay_behind K) ["self", "other", "rests"] (spBehindG K) := by
  refine T.f_Stay_behind.ok sc_Stay_behind (fun vs H Q E h => ?_) (fun cdv A outer s H vs Q E hgu hr h => ⟨_, (pss_cons (ps_if (pt_not (pt_val (pe_callB (show CallR _ (.builtin "isinstance") (RIsiC K) from call_isiC) (by rfl) T.n_isinstance boot_isinstance (pa_cons (pv 1) (pa_cons (pe_glob (v := .ref (He.ga K "Stay")) rfl T.g_Stay rfl) pa_nil))))) (pss_one (ps_raiseX rfl (takes_of rfl rfl rfl rfl) T.x_NoStay (ok_NoStay_init T) T.b_NoStay_init (hr.mono (by decide)) rfl (pa_cons (pv 1) pa_nil))) pss_nil)
 (pss_cons (ps_expr (ge_call (ok_need_rests T) hgu (hr.mono (by decide)) rfl T.g_need_rests T.k_need_rests T.b_need_rests .nil (fun _ => pass_takes (takes_of rfl rfl rfl rfl)) (pa_cons (pv 2) pa_nil)))
 (pss_one (ps_ret (ge_call (ok_may_follow T) hgu (hr.mono (by decide)) rfl T.g_may_follow T.k_may_follow T.b_may_follow .nil (fun _ => pass_takes (takes_of rfl rfl rfl rfl)) (pa_cons (pv 0) (pa_cons (pv 1) (pa_cons (pv 2) pa_nil)))))))), ?_⟩)
  · obtain ⟨a, b, t, u, v, o, R, D, rfl, _⟩ := h
    rfl
  · obtain ⟨a, b, t, u, v, o, R, D, rfl, hI, it, iu, ra, go⟩ := h
    wtm_at "go"
    wtm_at "sm"
    refine RIsiC.ty ((iu.ty T.in_Stay).mono hI.sub) T.ki_Stay_Stay ?_
    wtm_at "sm"
    refine nrests_use hI ra (fun H1 D1 hI1 x1 => ?_)
    wtm_at "sm"
    exact may_use hI1 (it.mono x1) (iu.mono x1) (ra.mono x1) (go _ _ hI1 x1)
structure WOk (p : Int × Int) : Prop where
  w0 : 0 ≤ p.1
  w1 : p.1 ≤ 400
  c0 : -60 ≤ p.2
  c1 : p.2 ≤ 60
def PairAt (D : Hp) (v : V) (p : Int × Int) : Prop := ∃ q, v = .ref q ∧ D q = some (.tup [.int p.1, .int p.2])
theorem PairAt.mono {D D' : Hp} {v : V} {p : Int × Int} (h : PairAt D v p) (x : Ex D D') : PairAt D' v p := by
  obtain ⟨q, e, h⟩ := h
  exact ⟨q, e, x _ _ h⟩
/-- a list of pairs -/
inductive PairsL (D : Hp) : List V → List (Int × Int) → Prop
  | nil : PairsL D [] []
  | cons {v : V} {xs : List V} {p : Int × Int} {ns : List (Int × Int)} : PairAt D v p → PairsL D xs ns → PairsL D (v :: xs) (p :: ns)
theorem PairsL.mono {D D' : Hp} (x : Ex D D') : ∀ {xs : List V} {ns : List (Int × Int)}, PairsL D xs ns → PairsL D' xs ns
  | _, _, .nil => .nil
  | _, _, .cons h l => .cons (h.mono x) (PairsL.mono x l)
theorem PairsL.length {D : Hp} : ∀ {xs : List V} {ns : List (Int × Int)}, PairsL D xs ns → xs.length = ns.length
  | _, _, .nil => rfl
  | _, _, .cons _ l => congrArg Nat.succ (PairsL.length l)
theorem PairsL.get {D : Hp} : ∀ {xs : List V} {ns : List (Int × Int)} {i : Nat} {p : Int × Int}, PairsL D xs ns → ns[i]? = some p → ∃ v, xs[i]? = some v ∧ PairAt D v p
  | _, _, _, _, .nil, e => by simp at e
  | _, _, 0, _, .cons h _, e => by
    simp at e
    subst e
    exact ⟨_, rfl, h⟩
  | _, _, i + 1, _, .cons _ l, e => by
    obtain ⟨v, a, b⟩ := PairsL.get (i := i) l (by simpa using e)
    exact ⟨v, by simpa using a, b⟩
theorem PairsL.getV {D : Hp} : ∀ {xs : List V} {ns : List (Int × Int)} {i : Nat} {v : V}, PairsL D xs ns → xs[i]? = some v → ∃ p, ns[i]? = some p ∧ PairAt D v p
  | _, _, _, _, .nil, e => by simp at e
  | _, _, 0, _, .cons h _, e => by
    simp at e
    subst e
    exact ⟨_, rfl, h⟩
  | _, _, i + 1, _, .cons _ l, e => by
    obtain ⟨p, a, b⟩ := PairsL.getV (i := i) l (by simpa using e)
    exact ⟨p, by simpa using a, b⟩
theorem PairsL.snoc {D : Hp} {v : V} {p : Int × Int} (h : PairAt D v p) : ∀ {xs : List V} {ns : List (Int × Int)}, PairsL D xs ns → PairsL D (xs ++ [v]) (ns ++ [p])
  | _, _, .nil => .cons h .nil
  | _, _, .cons a l => .cons a (PairsL.snoc h l)
theorem PairsL.app {D : Hp} {ys : List V} {ms : List (Int × Int)} (h : PairsL D ys ms) : ∀ {xs : List V} {ns : List (Int × Int)}, PairsL D xs ns → PairsL D (xs ++ ys) (ns ++ ms)
  | _, _, .nil => h
  | _, _, .cons a l => .cons a (PairsL.app h l)
theorem PairsL.take {D : Hp} : ∀ {xs : List V} {ns : List (Int × Int)} (k : Nat), PairsL D xs ns → PairsL D (xs.take k) (ns.take k)
  | _, _, 0, _ => .nil
  | _, _, _ + 1, .nil => .nil
  | _, _, k + 1, .cons a l => .cons a (PairsL.take k l)
theorem PairsL.drop {D : Hp} : ∀ {xs : List V} {ns : List (Int × Int)} (k : Nat), PairsL D xs ns → PairsL D (xs.drop k) (ns.drop k)
  | _, _, 0, h => h
  | _, _, _ + 1, .nil => .nil
  | _, _, k + 1, .cons _ l => PairsL.drop k l
def IsYr (K : PySem.W.Frag) (D : Hp) (a nl td : Addr) (ns : List (Int × Int)) : Prop :=
  (∃ dx, D a = some (.ins (He.ga K "Year") dx [("kept_normal", .ref nl), ("kept_told", .ref td)])) ∧ (∃ xs, D nl = some (.lst xs) ∧ PairsL D xs ns) ∧ 1 ≤ ns.length ∧ ns.length ≤ 52 ∧ ∀ p ∈ ns, WOk p
theorem IsYr.mono {K : PySem.W.Frag} {D D' : Hp} {a nl td : Addr} {ns : List (Int × Int)} (h : IsYr K D a nl td ns) (x : Ex D D') : IsYr K D' a nl td ns := by
  obtain ⟨⟨dx, e⟩, ⟨xs, e2, pl⟩, r⟩ := h
  exact ⟨⟨dx, x _ _ e⟩, ⟨xs, x _ _ e2, pl.mono x⟩, r⟩
/-- what is told of it -/
structure Told (D : Hp) (kvs : List (Key × V)) (m : Int → Option (Int × Int)) (n : Int) : Prop where
  no : ∀ k, m k = none → valV kvs (.inl k) = none
  yes : ∀ k p, m k = some p → ∃ v, valV kvs (.inl k) = some v ∧ PairAt D v p ∧ WOk p ∧ 1 ≤ k ∧ k ≤ n
  ks : ∃ ks : List Int, kvs.map (·.1) = ks.map Sum.inl ∧ ks.Nodup ∧ ∀ k ∈ ks, 1 ≤ k ∧ k ≤ n
theorem Told.mono {D D' : Hp} {kvs : List (Key × V)} {m : Int → Option (Int × Int)} {n : Int} (h : Told D kvs m n) (x : Ex D D') : Told D' kvs m n :=
  ⟨h.no, fun k p e => let ⟨v, a, b, c⟩ := h.yes k p e; ⟨v, a, b.mono x, c⟩, h.ks⟩
/-- a week as it stands -/
def stand (ns : List (Int × Int)) (m : Int → Option (Int × Int)) (k : Int) : Int × Int := (m k).getD (ns.getD (k - 1).toNat (0, 0))
/-- the year at a stands so: n weeks, the k-th as f k -/
def YrAt (K : PySem.W.Frag) (R : Cells) (D : Hp) (a : Addr) (f : Int → Int × Int) (n : Int) : Prop := ∃ nl td ns kvs m, IsYr K D a nl td ns ∧ ((td, HO.dK kvs) : Addr × HO) ∈ R ∧ Told D kvs m n ∧ n = (ns.length : Int) ∧ ∀ k, 1 ≤ k → k ≤ n → f k = stand ns m k
theorem YrAt.mono {K : PySem.W.Frag} {R : Cells} {D D' : Hp} {a : Addr} {f : Int → Int × Int} {n : Int} (h : YrAt K R D a f n) (x : Ex D D') : YrAt K R D' a f n := by
  obtain ⟨nl, td, ns, kvs, m, i, mm, t, e, g⟩ := h
  exact ⟨nl, td, ns, kvs, m, i.mono x, mm, t.mono x, e, g⟩
theorem YrAt.sub {K : PySem.W.Frag} {R R' : Cells} {D : Hp} {a : Addr} {f : Int → Int × Int} {n : Int} (h : YrAt K R D a f n) (s : ∀ q ∈ R, q ∈ R') : YrAt K R' D a f n := by
  obtain ⟨nl, td, ns, kvs, m, i, mm, r⟩ := h
  exact ⟨nl, td, ns, kvs, m, i, s _ mm, r⟩
theorem YrAt.cell {K : PySem.W.Frag} {R : Cells} {D : Hp} {a : Addr} {f : Int → Int × Int} {n : Int} {c : Addr × HO} (h : YrAt K R D a f n) : YrAt K (c :: R) D a f n := h.sub fun _ q => List.mem_cons_of_mem _ q
theorem YrAt.nn {K : PySem.W.Frag} {R : Cells} {D : Hp} {a : Addr} {f : Int → Int × Int} {n : Int} (h : YrAt K R D a f n) : 1 ≤ n ∧ n ≤ 52 := by
  obtain ⟨nl, td, ns, kvs, m, ⟨_, _, h0, h1, _⟩, mm, t, e, g⟩ := h
  omega
theorem YrAt.ok {K : PySem.W.Frag} {R : Cells} {D : Hp} {a : Addr} {f : Int → Int × Int} {n : Int} (h : YrAt K R D a f n) {k : Int} (k0 : 1 ≤ k) (k1 : k ≤ n) : WOk (f k) := by
  obtain ⟨nl, td, ns, kvs, m, ⟨_, _, h0, h1, hw⟩, mm, t, e, g⟩ := h
  rw [g k k0 k1]
  unfold stand
  cases em : m k with
  | some p =>
    obtain ⟨v, _, _, w, _⟩ := t.yes k p em
    exact w
  | none =>
    show WOk (ns.getD (k - 1).toNat (0, 0))
    have : (k - 1).toNat < ns.length := by omega
    rw [List.getD_eq_getElem?_getD, List.getElem?_eq_getElem this]
    exact hw _ (List.getElem_mem this)
def spWhl (K : PySem.W.Frag) (lo hi : Int) : Sp := fun vs H Q _ => ∃ (v : V) (R : Cells) (D : Hp), vs = [v] ∧ HI H R D ∧ Mt K R D v ∧ ∀ H', HI H' R D → Q (.bl (wholeB v lo hi)) H'
theorem whl_use {K : PySem.W.Frag} {lo hi : Int} {v : V} {R : Cells} {D H : Hp} {Q : VK} {E : XK} (h : HI H R D) (mt : Mt K R D v) (q : ∀ H', HI H' R D → Q (.bl (wholeB v lo hi)) H') : spWhl K lo hi [v] H Q E := ⟨v, R, D, rfl, h, mt, q⟩
theorem ok_is_warmth {P : Program} {w : World} {K : PySem.W.Frag} {mg : Str → Option Value} {base : Heap} (T : Tx K mg) : FnG P w K mg base 2 (a_is_warmth K) ["thing"] (spWhl K 0 400) := by
  refine T.f_is_warmth.ok sc_is_warmth (fun vs H Q E h => ?_) (fun cdv A outer s H vs Q E hgu hr h => ⟨_, (pss_one (ps_ret (ge_call (ok_is_whole T) hgu (hr.mono (by decide)) rfl T.g_is_whole T.k_is_whole T.b_is_whole .nil (fun _ => pass_takes (takes_of rfl rfl rfl rfl)) (pa_cons (pv 0) (pa_cons pe_int (pa_cons (pe_gi rfl T.c_MOST_WARMTH) pa_nil)))))), ?_⟩)
  · obtain ⟨v, R, D, rfl, _⟩ := h
    rfl
  · obtain ⟨v, R, D, rfl, hI, mt, go⟩ := h
    wtm_at "go"
    wtm_at "sg"
    exact whole_use hI mt go
theorem ok_is_cold {P : Program} {w : World} {K : PySem.W.Frag} {mg : Str → Option Value} {base : Heap} (T : Tx K mg) : FnG P w K mg base 2 (a_is_cold K) ["thing"] (spWhl K (-60) 60) := by
  refine T.f_is_cold.ok sc_is_cold (fun vs H Q E h => ?_) (fun cdv A outer s H vs Q E hgu hr h => ⟨_, (pss_one (ps_ret (ge_call (ok_is_whole T) hgu (hr.mono (by decide)) rfl T.g_is_whole T.k_is_whole T.b_is_whole .nil (fun _ => pass_takes (takes_of rfl rfl rfl rfl)) (pa_cons (pv 0) (pa_cons (pe_op op_sub pe_int (pe_gi rfl T.c_MOST_COLD)) (pa_cons (pe_gi rfl T.c_MOST_COLD) pa_nil)))))), ?_⟩)
  · obtain ⟨v, R, D, rfl, _⟩ := h
    rfl
  · obtain ⟨v, R, D, rfl, hI, mt, go⟩ := h
    wtm_at "go"
    wtm_at "sg"
    exact whole_use hI mt go
/-- a pair is one -/
def spPairG : Sp := fun vs H Q _ => ∃ (v : V) (p : Int × Int) (R : Cells) (D : Hp), vs = [v] ∧ HI H R D ∧ PairAt D v p ∧ WOk p ∧ ∀ H', HI H' R D → Q (.bl true) H'
theorem ok_is_pair {P : Program} {w : World} {K : PySem.W.Frag} {mg : Str → Option Value} {base : Heap} (T : Tx K mg) : FnG P w K mg base 3 (a_is_pair K) ["thing"] spPairG := by
  refine T.f_is_pair.ok sc_is_pair (fun vs H Q E h => ?_) (fun cdv A outer s H vs Q E hgu hr h => ⟨_, (pss_one (ps_ret (pe_and (pe_callB (show CallR _ (.builtin "isinstance") (RIsi K) from call_isiU) (by rfl) T.n_isinstance boot_isinstance (pa_cons (pv 0) (pa_cons (pe_bltn (v := .ty "tuple") (by rfl) T.n_tuple boot_tuple rfl) pa_nil))) (pe_and (pe_cmpR (op_eqU hr.units) (pe_callB (call_lenU) (by rfl) T.n_len boot_len (pa_cons (pv 0) pa_nil)) pe_int (nomark _)) (pe_and (ge_call (ok_is_warmth T) hgu (hr.mono (by decide)) rfl T.g_is_warmth T.k_is_warmth T.b_is_warmth .nil (fun _ => pass_takes (takes_of rfl rfl rfl rfl)) (pa_cons (pe_ix ix_U (pv 0) pe_int (fun _ _ => rfl)) pa_nil)) (pe_one (ge_call (ok_is_cold T) hgu (hr.mono (by decide)) rfl T.g_is_cold T.k_is_cold T.b_is_cold .nil (fun _ => pass_takes (takes_of rfl rfl rfl rfl)) (pa_cons (pe_ix ix_U (pv 0) pe_int (fun _ _ => rfl)) pa_nil)))))))), ?_⟩)
  · obtain ⟨v, p, R, D, rfl, _⟩ := h
    rfl
  · obtain ⟨v, p, R, D, rfl, hI, ⟨q, rfl, eq⟩, w, go⟩ := h
    wtm_at "go"
    wtm_at "sg"
    refine if_yes rfl ?_
    wtm_at "sg"
    refine whl_use hI (Th.kn (.int _)).m (fun H1 hI1 => ?_)
    rw [whole_ok w.w0 w.w1]
    wtm_at "sg"
    refine whl_use hI1 (Th.kn (.int _)).m (fun H2 hI2 => ?_)
    rw [whole_ok w.c0 w.c1]
    exact go _ hI2
def yrF (nl td : Addr) : List (Str × V) := [("kept_normal", .ref nl), ("kept_told", .ref td)]
def spYearInit (K : PySem.W.Frag) : Sp := fun vs H Q _ => ∃ (x dx p : Addr) (xs : List V) (ns : List (Int × Int)) (R : Cells) (D : Hp), vs = [.ref x, .ref p] ∧ HI H ((x, .ins (He.ga K "Year") dx []) :: R) D ∧ Sq3 R D p xs ∧ PairsL D xs ns ∧ 1 ≤ ns.length ∧ ns.length ≤ 52 ∧ (∀ q ∈ ns, WOk q) ∧
  ∀ nl td H' D', HI H' ((td, .dK []) :: (x, .ins (He.ga K "Year") dx (yrF nl td)) :: R) D' → Ex D D' → D' nl = some (.lst xs) → Q .non H'
set_option maxHeartbeats 1000000 in
theorem ok_Year_init {P : Program} {w : World} {K : PySem.W.Frag} {mg : Str → Option Value} {base : Heap} (T : Tx K mg) : FnG P w K mg base 4 (a_Year_init K) ["self", "normal"] (spYearInit K) := by
  refine T.f_Year_init.ok sc_Year_init (fun vs H Q E h => ?_) (fun cdv A outer s H vs Q E hgu hr h => ⟨_, (pss_cons (ps_if (PW.pt (pw_or (pt_not (pt_val (pe_callB (show CallR _ (.builtin "isinstance") (RIsiT K) from call_isiTU) (by rfl) T.n_isinstance boot_isinstance (pa_cons (pv 1) (pa_cons (pe_tup (pa_cons (pe_bltn (v := .ty "list") (by rfl) T.n_list boot_list rfl) (pa_cons (pe_bltn (v := .ty "tuple") (by rfl) T.n_tuple boot_tuple rfl) pa_nil))) pa_nil))))) (pw_or1 (pt_not (pt_chain (op_le) (op_le) pe_int (pe_callB (call_lenU) (by rfl) T.n_len boot_len (pa_cons (pv 1) pa_nil)) (pe_gi rfl T.c_MOST_WEEKS)))))) (pss_one (ps_raiseX rfl (takes_of rfl rfl rfl rfl) T.x_NoYear (ok_NoYear_init T) T.b_NoYear_init (hr.mono (by decide)) rfl (pa_cons (pv 1) pa_nil))) pss_nil)
 (pss_cons (ps_if (pt_not (pt_val (pe_callB (call_allU rfl) (by rfl) T.n_all boot_all (pa_cons (pe_lc (own := [("thing", 2)]) rfl sc_Year_init.nd (pi_seq (pv 1)) (blkOk_by (own := [("thing", 2)]) (N := ["self", "normal", "thing"]) (sc := defScope s_Year_init) (by decide +kernel)) (fun _ _ _ _ _ => (pg_name (i := 2) sc_Year_init.nd rfl (by first | exact Or.inl rfl | exact Or.inr rfl))) (fun _ _ _ _ _ => pts_nil) (fun _ _ _ _ _ => (ge_call (ok_is_pair T) hgu (hr.mono (by decide)) rfl T.g_is_pair T.k_is_pair T.b_is_pair .nil (fun _ => pass_none) (pa_cons (pv 2) pa_nil)))) pa_nil)))) (pss_one (ps_raiseX rfl (takes_of rfl rfl rfl rfl) T.x_NoYear (ok_NoYear_init T) T.b_NoYear_init (hr.mono (by decide)) rfl (pa_cons (pv 1) pa_nil))) pss_nil)
 (pss_cons (ps_fld (pv 0) (pe_callTy call_listU (by rfl) T.n_list boot_list (pa_cons (pv 1) pa_nil)) rfl)
 (pss_one (ps_fld (pv 0) (pe_dnewM) rfl))))), ?_⟩)
  · obtain ⟨x, dx, p, xs, ns, R, D, rfl, _⟩ := h
    rfl
  · obtain ⟨x, dx, p, xs, ns, R, D, rfl, hI, sq, pl, l0, l1, wo, go⟩ := h
    have pc := T.pc_Year
    have hl := pl.length
    have sq' : Sq3 ((x, .ins (He.ga K "Year") dx []) :: R) D p xs := sq.sub fun _ q => List.mem_cons_of_mem _ q
    wtm_at "go"
    wtm_at "sg"
    refine Sq3.isi (by assumption) (sq'.mono (by wtm_at "ex")) (by wtm_at "hp") ?_
    wtm_at "sg"
    refine Sq3.len (by assumption) (sq'.mono (by wtm_at "ex")) ?_
    wtm_at "sg"
    rename_i pT H1 D1 hI1 x1 eT
    refine lc_seq (sq'.mono x1) (fun i acc R' D' => R' = _ ∧ D' = _ ∧ acc = (List.replicate i true).map V.bl) hI1 ⟨rfl, rfl, rfl⟩ (fun i acc R' D' q => ?_) (fun L i acc v R' D' H' hv hI' q hl2 => ?_) (fun L acc R' D' H' hI' q hl2 => ?_)
    · obtain ⟨rfl, rfl, rfl⟩ := q
      exact ⟨fun _ q => q, Ex.refl _⟩
    · obtain ⟨rfl, rfl, rfl⟩ := q
      obtain ⟨pp, e1, pa⟩ := pl.getV hv
      have hi : i < xs.length := (List.getElem?_eq_some_iff.mp hv).1
      wtm_at "sg"
      refine ⟨v, pp, _, _, rfl, hI', pa.mono x1, wo _ (List.mem_of_getElem? e1), fun H2 hI2 => ?_⟩
      exact le_mk hI2 ⟨rfl, rfl, by rw [List.replicate_succ', List.map_append]; rfl⟩ hl2 (by omega)
    · obtain ⟨rfl, rfl, rfl⟩ := q
      refine RAll.mk (hI'.get (List.mem_cons_self ..)) ?_
      have ea : (List.replicate xs.length true).all id = true := by simp
      rw [ea]
      have hI2 := hI'.drop
      wtm_at "sg"
      refine Sq3.list hI2 (sq'.mono x1) ?_
      wtm_at "sg"
      exact go _ _ _ _ (by wtm_at "hi") (by wtm_at "ex") (by assumption)
theorem make_yr {K : PySem.W.Frag} {x dx p : Addr} {xs : List V} {ns : List (Int × Int)} {R : Cells} {D H : Hp} {P : Hp → Prop} {E : XK} (hI : HI H ((x, .ins (He.ga K "Year") dx []) :: (dx, .own x) :: R) D) (sq : Sq3 R D p xs) (pl : PairsL D xs ns) (l0 : 1 ≤ ns.length) (l1 : ns.length ≤ 52) (wo : ∀ q ∈ ns, WOk q)
    (go : ∀ nl td H' D', HI H' ((td, .dK []) :: R) D' → Ex D D' → IsYr K D' x nl td ns → P H') : spYearInit K [.ref x, .ref p] H (fun v H2 => v = .non ∧ P H2) E := by
  refine ⟨x, dx, p, xs, ns, _, D, rfl, hI, sq.sub fun _ q => List.mem_cons_of_mem _ q, pl, l0, l1, wo, fun nl td H' D' h x1 e => ⟨rfl, ?_⟩⟩
  have h2 : HI H' ((x, .ins (He.ga K "Year") dx (yrF nl td)) :: (dx, .own x) :: (td, .dK []) :: R) D' := h.dn2
  obtain ⟨D2, h3, x2, e2⟩ := h2.freezeI
  exact go nl td _ _ h3 (x1.trans x2) ⟨⟨dx, e2⟩, ⟨xs, x2 _ _ e, pl.mono (x1.trans x2)⟩, l0, l1, wo⟩
def spYLen (K : PySem.W.Frag) : Sp := fun vs H Q _ => ∃ (a : Addr) (f : Int → Int × Int) (n : Int) (R : Cells) (D : Hp), vs = [.ref a] ∧ HI H R D ∧ YrAt K R D a f n ∧ Q (.int n) H
theorem ok_Year_len {P : Program} {w : World} {K : PySem.W.Frag} {mg : Str → Option Value} {base : Heap} (T : Tx K mg) : FnG P w K mg base 1 (a_Year_len K) ["self"] (spYLen K) := by
  refine T.f_Year_len.ok sc_Year_len (fun vs H Q E h => ?_) (fun cdv A outer s H vs Q E hgu hr h => ⟨_, (pss_one (ps_ret (pe_callB (call_lenU) (by rfl) T.n_len boot_len (pa_cons (pe_fld (pv 0) rfl) pa_nil)))), ?_⟩)
  · obtain ⟨a, f, n, R, D, rfl, _⟩ := h
    rfl
  · obtain ⟨a, f, n, R, D, rfl, hI, yr, go⟩ := h
    have pc := T.pc_Year
    obtain ⟨nl, td, ns, kvs, m, ⟨⟨dx, ea⟩, ⟨xs, en, pl⟩, _⟩, mt, told, rfl, hf⟩ := yr
    wtm_at "go"
    wtm_at "sg"
    rw [pl.length]
    exact go
def spNeedWeek (K : PySem.W.Frag) : Sp := fun vs H Q E => ∃ (a : Addr) (v : V) (f : Int → Int × Int) (n : Int) (R : Cells) (D : Hp), vs = [.ref a, v] ∧ HI H R D ∧ YrAt K R D a f n ∧ Mt K R D v ∧
  (wholeB v 1 n = true → ∀ H', HI H' R D → Q .non H') ∧ (wholeB v 1 n = false → Outs E (He.ga K "NoWeek") v R D)
theorem ok_Year_need_week {P : Program} {w : World} {K : PySem.W.Frag} {mg : Str → Option Value} {base : Heap} (T : Tx K mg) : FnG P w K mg base 4 (a_Year_need_week K) ["self", "week"] (spNeedWeek K) := by
  refine T.f_Year_need_week.ok sc_Year_need_week (fun vs H Q E h => ?_) (fun cdv A outer s H vs Q E hgu hr h => ⟨_, (pss_one (ps_if (pt_not (pt_val (ge_call (ok_is_whole T) hgu (hr.mono (by decide)) rfl T.g_is_whole T.k_is_whole T.b_is_whole .nil (fun _ => pass_takes (takes_of rfl rfl rfl rfl)) (pa_cons (pv 1) (pa_cons pe_int (pa_cons (pe_callB (call_lenU) (by rfl) T.n_len boot_len (pa_cons (pe_fld (pv 0) rfl) pa_nil)) pa_nil)))))) (pss_one (ps_raiseX rfl (takes_of rfl rfl rfl rfl) T.x_NoWeek (ok_NoWeek_init T) T.b_NoWeek_init (hr.mono (by decide)) rfl (pa_cons (pv 1) pa_nil))) pss_nil)), ?_⟩)
  · obtain ⟨a, v, f, n, R, D, rfl, _⟩ := h
    rfl
  · obtain ⟨a, v, f, n, R, D, rfl, hI, yr, mv, good, bad⟩ := h
    have pc := T.pc_Year
    obtain ⟨nl, td, ns, kvs, m, ⟨⟨dx, ea⟩, ⟨xs, en, pl⟩, _⟩, mt, told, rfl, hf⟩ := yr
    wtm_at "go"
    wtm_at "sg"
    rw [pl.length]
    refine whole_use hI mv (fun H1 hI1 => ?_)
    wtm_at "sg"
    cases hb : wholeB v 1 (ns.length : Int)
    · wtm_at "sg"
      exact bad hb _ _ _ (by assumption) (by wtm_at "ex") (by wtm_at "dat")
    · wtm_at "sg"
      exact good hb _ hI1
theorem need_week_use {K : PySem.W.Frag} {a : Addr} {v : V} {f : Int → Int × Int} {n : Int} {R : Cells} {D H : Hp} {Q : VK} {E : XK} (hI : HI H R D) (yr : YrAt K R D a f n) (mt : Mt K R D v) (good : wholeB v 1 n = true → ∀ H', HI H' R D → Q .non H') (bad : wholeB v 1 n = false → Outs E (He.ga K "NoWeek") v R D) : spNeedWeek K [.ref a, v] H Q E := ⟨a, v, f, n, R, D, rfl, hI, yr, mt, good, bad⟩
def spPair (K : PySem.W.Frag) : Sp := fun vs H Q _ => ∃ (a : Addr) (k : Int) (f : Int → Int × Int) (n : Int) (R : Cells) (D : Hp), vs = [.ref a, .int k] ∧ HI H R D ∧ YrAt K R D a f n ∧ 1 ≤ k ∧ k ≤ n ∧ ∀ v, PairAt D v (f k) → Q v H
theorem ok_Year_pair {P : Program} {w : World} {K : PySem.W.Frag} {mg : Str → Option Value} {base : Heap} (T : Tx K mg) : FnG P w K mg base 1 (a_Year_pair K) ["self", "week"] (spPair K) := by
  refine T.f_Year_pair.ok sc_Year_pair (fun vs H Q E h => ?_) (fun cdv A outer s H vs Q E hgu hr h => ⟨_, (pss_one (ps_ret (pe_dget2 (by exact hu1 hr) (pe_fld (pv 0) rfl) (pv 1) (pe_ix ix_U (pe_fld (pv 0) rfl) (pe_op op_sub (pv 1) pe_int) (fun _ _ => rfl)) ⟨rfl, rfl, rfl, rfl⟩))), ?_⟩)
  · obtain ⟨a, k, f, n, R, D, rfl, _⟩ := h
    rfl
  · obtain ⟨a, k, f, n, R, D, rfl, hI, yr, k0, k1, go⟩ := h
    have pc := T.pc_Year
    obtain ⟨nl, td, ns, kvs, m, ⟨⟨dx, ea⟩, ⟨xs, en, pl⟩, _⟩, mt, told, rfl, hf⟩ := yr
    have hk := hf k k0 k1
    have hlt : (k - 1).toNat < ns.length := by omega
    obtain ⟨v, e1, pv⟩ := pl.get (List.getElem?_eq_getElem hlt)
    have et := hI.get mt
    wtm_at "go"
    wtm_at "sg"
    refine RIx.l (hI.dat en) ((atI_ofI (by omega)).trans e1) ?_
    wtm_at "sg"
    unfold stand at hk
    cases em : m k with
    | none =>
      rw [told.no k em]
      rw [em, List.getD_eq_getElem?_getD, List.getElem?_eq_getElem hlt] at hk
      exact go v (by rw [hk]; exact pv)
    | some p =>
      obtain ⟨u, e2, pu, _⟩ := told.yes k p em
      rw [e2]
      rw [em] at hk
      exact go u (by rw [hk]; exact pu)
theorem pair_use {K : PySem.W.Frag} {a : Addr} {k : Int} {f : Int → Int × Int} {n : Int} {R : Cells} {D H : Hp} {Q : VK} {E : XK} (hI : HI H R D) (yr : YrAt K R D a f n) (k0 : 1 ≤ k) (k1 : k ≤ n) (go : ∀ v, PairAt D v (f k) → Q v H) : spPair K [.ref a, .int k] H Q E := ⟨a, k, f, n, R, D, rfl, hI, yr, k0, k1, go⟩
def spWc (K : PySem.W.Frag) (g : Int × Int → Int) : Sp := fun vs H Q E => ∃ (a : Addr) (v : V) (f : Int → Int × Int) (n : Int) (R : Cells) (D : Hp), vs = [.ref a, v] ∧ HI H R D ∧ YrAt K R D a f n ∧ Mt K R D v ∧
  (∀ k, v = .int k → 1 ≤ k → k ≤ n → ∀ H', HI H' R D → Q (.int (g (f k))) H') ∧ (wholeB v 1 n = false → Outs E (He.ga K "NoWeek") v R D)
theorem wc_use {K : PySem.W.Frag} {g : Int × Int → Int} {a : Addr} {k : Int} {f : Int → Int × Int} {n : Int} {R : Cells} {D H : Hp} {Q : VK} {E : XK} (hI : HI H R D) (yr : YrAt K R D a f n) (k0 : 1 ≤ k) (k1 : k ≤ n) (good : ∀ H', HI H' R D → Q (.int (g (f k))) H') : spWc K g [.ref a, .int k] H Q E :=
  ⟨a, .int k, f, n, R, D, rfl, hI, yr, (Th.kn (.int k)).m, fun j e _ _ => by cases e; exact good, fun h => by rw [whole_ok k0 k1] at h; cases h⟩
theorem ok_Year_warmth {P : Program} {w : World} {K : PySem.W.Frag} {mg : Str → Option Value} {base : Heap} (T : Tx K mg) : FnG P w K mg base 5 (a_Year_warmth K) ["self", "week"] (spWc K Prod.fst) := by
  refine T.f_Year_warmth.ok sc_Year_warmth (fun vs H Q E h => ?_) (fun cdv A outer s H vs Q E hgu hr h => ⟨_, (pss_cons (ps_expr (ge_meth (pv 0) T.cl_Year T.m_Year_need_week (ok_Year_need_week T) hgu (hr.mono (by decide)) T.b_Year_need_week .nil (fun _ => pass_takes (takes_of rfl rfl rfl rfl)) (pa_cons (pv 1) pa_nil)))
 (pss_one (ps_ret (pe_ix ix_U (ge_meth (pv 0) T.cl_Year T.m_Year_pair (ok_Year_pair T) hgu (hr.mono (by decide)) T.b_Year_pair .nil (fun _ => pass_takes (takes_of rfl rfl rfl rfl)) (pa_cons (pv 1) pa_nil)) pe_int (fun _ _ => rfl))))), ?_⟩)
  · obtain ⟨a, v, f, n, R, D, rfl, _⟩ := h
    rfl
  · obtain ⟨a, v, f, n, R, D, rfl, hI, yr, mv, good, bad⟩ := h
    obtain ⟨nl, td, ns, kvs, m, ⟨⟨dx, ea⟩, _⟩, _⟩ := id yr
    wtm_at "go"
    wtm_at "sg"
    refine need_week_use hI yr mv (fun hb H1 hI1 => ?_) bad
    obtain ⟨k, rfl, k0, k1⟩ := whole_is hb
    wtm_at "sg"
    refine pair_use hI1 yr k0 k1 (fun v pv => ?_)
    obtain ⟨q, rfl, eq⟩ := pv
    wtm_at "sg"
    exact good k rfl k0 k1 _ hI1
theorem ok_Year_cold {P : Program} {w : World} {K : PySem.W.Frag} {mg : Str → Option Value} {base : Heap} (T : Tx K mg) : FnG P w K mg base 5 (a_Year_cold K) ["self", "week"] (spWc K Prod.snd) := by
  refine T.f_Year_cold.ok sc_Year_cold (fun vs H Q E h => ?_) (fun cdv A outer s H vs Q E hgu hr h => ⟨_, (pss_cons (ps_expr (ge_meth (pv 0) T.cl_Year T.m_Year_need_week (ok_Year_need_week T) hgu (hr.mono (by decide)) T.b_Year_need_week .nil (fun _ => pass_takes (takes_of rfl rfl rfl rfl)) (pa_cons (pv 1) pa_nil)))
 (pss_one (ps_ret (pe_ix ix_U (ge_meth (pv 0) T.cl_Year T.m_Year_pair (ok_Year_pair T) hgu (hr.mono (by decide)) T.b_Year_pair .nil (fun _ => pass_takes (takes_of rfl rfl rfl rfl)) (pa_cons (pv 1) pa_nil)) pe_int (fun _ _ => rfl))))), ?_⟩)
  · obtain ⟨a, v, f, n, R, D, rfl, _⟩ := h
    rfl
  · obtain ⟨a, v, f, n, R, D, rfl, hI, yr, mv, good, bad⟩ := h
    obtain ⟨nl, td, ns, kvs, m, ⟨⟨dx, ea⟩, _⟩, _⟩ := id yr
    wtm_at "go"
    wtm_at "sg"
    refine need_week_use hI yr mv (fun hb H1 hI1 => ?_) bad
    obtain ⟨k, rfl, k0, k1⟩ := whole_is hb
    wtm_at "sg"
    refine pair_use hI1 yr k0 k1 (fun v pv => ?_)
    obtain ⟨q, rfl, eq⟩ := pv
    wtm_at "sg"
    exact good k rfl k0 k1 _ hI1
def putM (m : Int → Option (Int × Int)) (k : Int) (p : Option (Int × Int)) : Int → Option (Int × Int) := fun j => if j = k then p else m j
theorem Told.put {D : Hp} {kvs : List (Key × V)} {m : Int → Option (Int × Int)} {n k : Int} {p : Int × Int} {v : V} (h : Told D kvs m n) (pv : PairAt D v p) (w : WOk p) (k0 : 1 ≤ k) (k1 : k ≤ n) : Told D (putK kvs (.inl k) v) (putM m k (some p)) n := by
  have key : ∀ j : Int, (Sum.inl j : Key) = Sum.inl k ↔ j = k := fun j => ⟨fun e => Sum.inl.inj e, fun e => by rw [e]⟩
  refine ⟨fun j e => ?_, fun j q e => ?_, ?_⟩
  · unfold putM at e
    by_cases hj : j = k
    · rw [if_pos hj] at e
      cases e
    · rw [if_neg hj] at e
      rw [valV_put, if_neg (fun q => hj ((key j).mp q))]
      exact h.no j e
  · unfold putM at e
    by_cases hj : j = k
    · rw [if_pos hj] at e
      cases e
      rw [hj, valV_put, if_pos rfl]
      exact ⟨v, rfl, pv, w, k0, k1⟩
    · rw [if_neg hj] at e
      rw [valV_put, if_neg (fun q => hj ((key j).mp q))]
      exact h.yes j q e
  · obtain ⟨ks, e1, nd, b⟩ := h.ks
    cases ev : valV kvs (.inl k) with
    | none =>
      rw [putK_new v ev]
      refine ⟨ks ++ [k], by rw [List.map_append, List.map_append, e1]; rfl, ?_, ?_⟩
      · have nk : k ∉ ks := fun hk => by
          have := valV_not ev
          rw [e1] at this
          exact this (List.mem_map.mpr ⟨k, hk, rfl⟩)
        rw [List.nodup_append]
        exact ⟨nd, by simp, fun a ha b hb e => by rw [List.mem_singleton.mp hb] at e; rw [e] at ha; exact nk ha⟩
      · intro j hj
        rcases List.mem_append.mp hj with q | q
        · exact b j q
        · rw [List.mem_singleton.mp q]
          exact ⟨k0, k1⟩
    | some u =>
      refine ⟨ks, ?_, nd, b⟩
      rw [← e1]
      have : (kvs.any fun kv => decide (kv.1 = (Sum.inl k : Key))) = true := by rw [valV_any, ev]; rfl
      unfold putK
      rw [if_pos this, List.map_map]
      refine List.map_congr_left fun q _ => ?_
      show (if q.1 = (Sum.inl k : Key) then (q.1, v) else q).1 = q.1
      by_cases e : q.1 = (Sum.inl k : Key)
      · rw [if_pos e]
      · rw [if_neg e]
def spTell (K : PySem.W.Frag) : Sp := fun vs H Q E => ∃ (a nl td : Addr) (ns : List (Int × Int)) (kvs : List (Key × V)) (m : Int → Option (Int × Int)) (v w c : V) (R : Cells) (D : Hp), vs = [.ref a, v, w, c] ∧ HI H ((td, .dK kvs) :: R) D ∧ IsYr K D a nl td ns ∧ Told D kvs m ns.length ∧
  Mt K ((td, .dK kvs) :: R) D v ∧ Mt K ((td, .dK kvs) :: R) D w ∧ Mt K ((td, .dK kvs) :: R) D c ∧
  (∀ (k wi : Int) (ci : Option Int), v = .int k → w = .int wi → c = oV ci → 1 ≤ k → k ≤ ns.length → 0 ≤ wi → wi ≤ 400 → (∀ x, ci = some x → -60 ≤ x ∧ x ≤ 60) → ∀ kvs' H' D', HI H' ((td, .dK kvs') :: R) D' → Ex D D' → Told D' kvs' (putM m k (some (wi, ci.getD (stand ns m k).2))) ns.length → Q .non H') ∧
  (wholeB v 1 ns.length = false → Outs E (He.ga K "NoWeek") v ((td, .dK kvs) :: R) D) ∧ (wholeB v 1 ns.length = true → wholeB w 0 400 = false → Outs E (He.ga K "NoNumber") w ((td, .dK kvs) :: R) D) ∧
  (wholeB v 1 ns.length = true → wholeB w 0 400 = true → c ≠ .non → wholeB c (-60) 60 = false → Outs E (He.ga K "NoNumber") c ((td, .dK kvs) :: R) D)
theorem nd_le : ∀ (n : Nat) (l : List Int), l.Nodup → (∀ k ∈ l, 1 ≤ k ∧ k ≤ (n : Int)) → l.length ≤ n
  | 0, l, _, h => by
    cases l with
    | nil => exact Nat.le_refl _
    | cons a r =>
      obtain ⟨a0, a1⟩ := h a (List.mem_cons_self ..)
      omega
  | n + 1, l, nd, h => by
    by_cases hm : ((n + 1 : Nat) : Int) ∈ l
    · have ih := nd_le n (l.erase ((n + 1 : Nat) : Int)) (nd.erase _) fun k hk => by
        obtain ⟨ne, hk2⟩ := (nd.mem_erase_iff).mp hk
        obtain ⟨b0, b1⟩ := h k hk2
        exact ⟨b0, by omega⟩
      rw [List.length_erase_of_mem hm] at ih
      omega
    · have ih := nd_le n l nd fun k hk => by
        obtain ⟨b0, b1⟩ := h k hk
        refine ⟨b0, ?_⟩
        have : k ≠ ((n + 1 : Nat) : Int) := fun e => hm (e ▸ hk)
        omega
      omega
theorem Told.len {D : Hp} {kvs : List (Key × V)} {m : Int → Option (Int × Int)} {n : Nat} (h : Told D kvs m n) : kvs.length ≤ n := by
  obtain ⟨ks, e, nd, b⟩ := h.ks
  have : kvs.length = ks.length := by
    have := congrArg List.length e
    rwa [List.length_map, List.length_map] at this
  rw [this]
  exact nd_le n ks nd b
theorem IsYr.at {K : PySem.W.Frag} {R : Cells} {D : Hp} {a nl td : Addr} {ns : List (Int × Int)} {kvs : List (Key × V)} {m : Int → Option (Int × Int)} (i : IsYr K D a nl td ns) (mm : ((td, HO.dK kvs) : Addr × HO) ∈ R) (t : Told D kvs m ns.length) : YrAt K R D a (stand ns m) ns.length := ⟨nl, td, ns, kvs, m, i, mm, t, rfl, fun _ _ _ => rfl⟩
set_option maxHeartbeats 1000000 in
theorem ok_Year_tell {P : Program} {w : World} {K : PySem.W.Frag} {mg : Str → Option Value} {base : Heap} (T : Tx K mg) : FnG P w K mg base 5 (a_Year_tell K) ["self", "week", "warmth", "cold"] (spTell K) := by
  refine T.f_Year_tell.ok sc_Year_tell (fun vs H Q E h => ?_) (fun cdv A outer s H vs Q E hgu hr h => ⟨_, (pss_cons (ps_expr (ge_meth (pv 0) T.cl_Year T.m_Year_need_week (ok_Year_need_week T) hgu (hr.mono (by decide)) T.b_Year_need_week .nil (fun _ => pass_takes (takes_of rfl rfl rfl rfl)) (pa_cons (pv 1) pa_nil)))
 (pss_cons (ps_if (pt_not (pt_val (ge_call (ok_is_warmth T) hgu (hr.mono (by decide)) rfl T.g_is_warmth T.k_is_warmth T.b_is_warmth .nil (fun _ => pass_takes (takes_of rfl rfl rfl rfl)) (pa_cons (pv 2) pa_nil)))) (pss_one (ps_raiseX rfl (takes_of rfl rfl rfl rfl) T.x_NoNumber (ok_NoNumber_init T) T.b_NoNumber_init (hr.mono (by decide)) rfl (pa_cons (pv 2) pa_nil))) pss_nil)
 (pss_cons (ps_if (PW.pt (pw_and (pt_cmpR op_isnU (pv 3) pe_non (nomark _)) (pw_and1 (pt_not (pt_val (ge_call (ok_is_cold T) hgu (hr.mono (by decide)) rfl T.g_is_cold T.k_is_cold T.b_is_cold .nil (fun _ => pass_takes (takes_of rfl rfl rfl rfl)) (pa_cons (pv 3) pa_nil))))))) (pss_one (ps_raiseX rfl (takes_of rfl rfl rfl rfl) T.x_NoNumber (ok_NoNumber_init T) T.b_NoNumber_init (hr.mono (by decide)) rfl (pa_cons (pv 3) pa_nil))) pss_nil)
 (pss_cons (ps_if (pt_cmpR op_isU (pv 3) pe_non (nomark _)) (pss_one (ps_set (i := 3) sc_Year_tell.nd rfl (Or.inl rfl) (pe_ix ix_U (ge_meth (pv 0) T.cl_Year T.m_Year_pair (ok_Year_pair T) hgu (hr.mono (by decide)) T.b_Year_pair .nil (fun _ => pass_takes (takes_of rfl rfl rfl rfl)) (pa_cons (pv 1) pa_nil)) pe_int (fun _ _ => rfl)))) pss_nil)
 (pss_one (ps_dput (by exact hu1 hr) (pe_fld (pv 0) rfl) (pv 1) (pe_tup (pa_cons (pv 2) (pa_cons (pv 3) pa_nil))) rfl)))))), ?_⟩)
  · obtain ⟨a, nl, td, ns, kvs, m, v, w, c, R, D, rfl, _⟩ := h
    rfl
  · obtain ⟨a, nl, td, ns, kvs, m, v, w, c, R, D, rfl, hI, iy, told, mv, mw, mc, good, bad1, bad2, bad3⟩ := h
    have pc := T.pc_Year
    have yr := iy.at (R := (td, .dK kvs) :: R) (List.mem_cons_self ..) told
    obtain ⟨⟨dx, ea⟩, ⟨xs, en, pl⟩, l0, l1, wo⟩ := id iy
    have kl := told.len
    wtm_at "go"
    wtm_at "sg"
    refine need_week_use hI yr mv (fun hb H1 hI1 => ?_) bad1
    obtain ⟨k, rfl, k0, k1⟩ := whole_is hb
    wtm_at "sg"
    refine whl_use hI1 mw (fun H2 hI2 => ?_)
    wtm_at "sg"
    cases hw : wholeB w 0 400 with
    | false =>
      wtm_at "sg"
      exact bad2 hb hw _ _ _ (by assumption) (by wtm_at "ex") (by wtm_at "dat")
    | true =>
      obtain ⟨wi, rfl, w0, w1⟩ := whole_is hw
      wtm_at "sg"
      by_cases hc : c = .non
      · subst hc
        wtm_at "sg"
        refine pair_use hI2 yr k0 k1 (fun u pu => ?_)
        obtain ⟨q, rfl, eq⟩ := pu
        wtm_at "sg"
        rename_i pn H3 D3 hI3 x3 en3 H4 hI4
        have pv : PairAt D3 (.ref pn) (wi, (stand ns m k).2) := ⟨pn, rfl, en3⟩
        have sk := yr.ok k0 k1
        exact good k wi none rfl rfl rfl k0 k1 w0 w1 (fun _ e => by cases e) _ _ _ hI4 (by wtm_at "ex") ((told.mono (by wtm_at "ex")).put pv ⟨w0, w1, sk.c0, sk.c1⟩ k0 k1)
      · wtm_at "sg"
        refine whl_use hI2 mc (fun H3 hI3 => ?_)
        wtm_at "sg"
        cases hcb : wholeB c (-60) 60 with
        | false =>
          wtm_at "sg"
          exact bad3 hb hw hc hcb _ _ _ (by assumption) (by wtm_at "ex") (by wtm_at "dat")
        | true =>
          obtain ⟨ci, rfl, c0, c1⟩ := whole_is hcb
          wtm_at "sg"
          rename_i pn H5 D5 hI5 x5 en5 H6 hI6
          have pv : PairAt D5 (.ref pn) (wi, ci) := ⟨pn, rfl, en5⟩
          exact good k wi (some ci) rfl rfl rfl k0 k1 w0 w1 (fun _ e => by cases e; exact ⟨c0, c1⟩) _ _ _ hI6 (by wtm_at "ex") ((told.mono (by wtm_at "ex")).put pv ⟨w0, w1, c0, c1⟩ k0 k1)
theorem valV_drop {kvs : List (Key × V)} {k j : Key} : valV (dropK kvs k) j = if j = k then none else valV kvs j := by
  induction kvs with
  | nil => by_cases h : j = k <;> simp [dropK, valV_nil, h]
  | cons p r ih =>
    by_cases e : p.1 = k
    · rw [dropK_pos e, ih]
      by_cases h : j = k
      · rw [if_pos h, if_pos h]
      · rw [if_neg h, if_neg h, valV_neg (fun z => h (z.symm.trans e))]
    · rw [dropK_neg e]
      by_cases h : p.1 = j
      · rw [valV_pos h, if_neg (fun z => e (h.trans z)), valV_pos h]
      · rw [valV_neg h, ih, valV_neg h]
theorem Told.drop {D : Hp} {kvs : List (Key × V)} {m : Int → Option (Int × Int)} {n k : Int} (h : Told D kvs m n) : Told D (dropK kvs (.inl k)) (putM m k none) n := by
  have key : ∀ j : Int, (Sum.inl j : Key) = Sum.inl k ↔ j = k := fun j => ⟨fun e => Sum.inl.inj e, fun e => by rw [e]⟩
  refine ⟨fun j e => ?_, fun j q e => ?_, ?_⟩
  · rw [valV_drop]
    by_cases hj : j = k
    · rw [if_pos ((key j).mpr hj)]
    · rw [if_neg (fun q => hj ((key j).mp q))]
      unfold putM at e
      rw [if_neg hj] at e
      exact h.no j e
  · unfold putM at e
    by_cases hj : j = k
    · rw [if_pos hj] at e
      cases e
    · rw [if_neg hj] at e
      rw [valV_drop, if_neg (fun q => hj ((key j).mp q))]
      exact h.yes j q e
  · obtain ⟨ks, e1, nd, b⟩ := h.ks
    refine ⟨ks.filter fun j => decide (j ≠ k), ?_, nd.filter _, fun j hj => b j (List.mem_filter.mp hj).1⟩
    unfold dropK
    have : ∀ (kvs : List (Key × V)) (ks : List Int), kvs.map (·.1) = ks.map Sum.inl → (kvs.filter fun kv => decide (kv.1 ≠ (Sum.inl k : Key))).map (·.1) = (ks.filter fun j => decide (j ≠ k)).map Sum.inl := by
      intro kvs
      induction kvs with
      | nil =>
        intro ks e
        cases ks with
        | nil => rfl
        | cons a r => cases e
      | cons p r ih =>
        intro ks e
        cases ks with
        | nil => cases e
        | cons a s =>
          obtain ⟨e1, e2⟩ := List.cons.inj e
          have ih := ih s e2
          by_cases ha : a = k
          · rw [List.filter_cons_of_neg (by simp [show p.1 = Sum.inl a from e1, ha]), List.filter_cons_of_neg (by simp [ha])]
            exact ih
          · rw [List.filter_cons_of_pos (by simp [show p.1 = Sum.inl a from e1]; exact ha), List.filter_cons_of_pos (by simp [ha]), List.map_cons, List.map_cons, ih]
            rw [show p.1 = Sum.inl a from e1]
    exact this kvs ks e1
theorem paired_snoc {α β : Type} {r : α → β → Prop} {x : α} {y : β} (h : r x y) : ∀ {xs : List α} {ys : List β}, Paired r xs ys → Paired r (xs ++ [x]) (ys ++ [y])
  | _, _, .nil => .cons h .nil
  | _, _, .cons a l => .cons a (paired_snoc h l)
abbrev Wf := Int → Int × Int
def wpart (f : Wf) (s : Int) (i : Nat) : Int := ((List.range i).map fun (j : Nat) => (f (s + (j : Int))).1).sum
def wsum (f : Wf) (s k : Int) : Int := wpart f s (k + 1 - s).toNat
theorem wpart_succ {f : Wf} {s : Int} {i : Nat} : wpart f s (i + 1) = wpart f s i + (f (s + (i : Int))).1 := by
  unfold wpart
  rw [List.range_succ, List.map_append, List.sum_append]
  simp
def fstW (p : Int → Bool) (s n : Int) : Option Int := ((List.range (n + 1 - s).toNat).map fun (i : Nat) => s + (i : Int)).find? p
theorem fst_go {p : Int → Bool} {s : Int} {m : Nat} : (∀ j : Nat, j < m → p (s + (j : Int)) = false) → ((List.range m).map fun (i : Nat) => s + (i : Int)).find? p = none := fun h => by
  rw [List.find?_eq_none]
  intro x hx
  obtain ⟨j, hj, rfl⟩ := List.mem_map.mp hx
  rw [h j (List.mem_range.mp hj)]
  decide
theorem fst_none {p : Int → Bool} {s n : Int} (h : ∀ j : Nat, j < (n + 1 - s).toNat → p (s + (j : Int)) = false) : fstW p s n = none := fst_go h
theorem fst_hit {p : Int → Bool} {s n : Int} {i : Nat} (hi : i < (n + 1 - s).toNat) (hp : p (s + (i : Int)) = true) (h : ∀ j : Nat, j < i → p (s + (j : Int)) = false) : fstW p s n = some (s + (i : Int)) := by
  unfold fstW
  have e : (n + 1 - s).toNat = i + ((n + 1 - s).toNat - i) := by omega
  rw [e, List.range_add, List.map_append, List.find?_append, fst_go h, Option.none_or]
  obtain ⟨q, hq⟩ : ∃ q, (n + 1 - s).toNat - i = q + 1 := ⟨(n + 1 - s).toNat - i - 1, by omega⟩
  rw [hq, List.range_succ_eq_map, List.map_cons, List.map_cons, List.find?_cons_of_pos (by simpa using hp)]
  simp
theorem fst_some {p : Int → Bool} {s n k : Int} (h : fstW p s n = some k) : s ≤ k ∧ k ≤ n ∧ p k = true := by
  have hp := List.find?_some h
  have hm := List.mem_of_find?_eq_some h
  obtain ⟨j, hj, rfl⟩ := List.mem_map.mp hm
  have := List.mem_range.mp hj
  exact ⟨by omega, by omega, hp⟩
def ripeO (f : Wf) (n s need : Int) : Option Int := fstW (fun k => decide (need ≤ wsum f s k)) s n
def lastO (f : Wf) (n s need keeps : Int) : Option Int := if n < s then none else match ripeO f n s need with
  | none => some n
  | some r => some (min n (r + keeps - 1))
def lostO (f : Wf) (n s need keeps bears : Int) : Option Int := (lastO f n s need keeps).bind fun l => fstW (fun k => decide ((f k).2 < bears)) s l
def cutO (f : Wf) (n s need keeps bears : Int) : Option (Int × Int) := match ripeO f n s need with
  | none => none
  | some r => match lostO f n s need keeps bears with
    | none => some (r, (lastO f n s need keeps).getD 0)
    | some l => if l ≤ r then none else some (r, l - 1)
theorem ripe_in_year {f : Wf} {n s need k : Int} (h : ripeO f n s need = some k) : s ≤ k ∧ k ≤ n := ⟨(fst_some h).1, (fst_some h).2.1⟩
theorem last_in_year {f : Wf} {n s need keeps k : Int} (hk : 1 ≤ keeps) (h : lastO f n s need keeps = some k) : s ≤ k ∧ k ≤ n := by
  unfold lastO at h
  split at h
  · cases h
  · split at h
    · cases h
      omega
    · rename_i r e
      cases h
      obtain ⟨a, b⟩ := ripe_in_year e
      omega
theorem wsum_at {f : Wf} {s : Int} {i : Nat} : wsum f s (s + (i : Int)) = wpart f s (i + 1) := by
  unfold wsum
  rw [show (s + (i : Int) + 1 - s).toNat = i + 1 by omega]
def Rw'.ripe (r : Rw') (f : Wf) (n : Int) : Option Int := ripeO f n r.w r.s.n
def Rw'.last (r : Rw') (f : Wf) (n : Int) : Option Int := lastO f n r.w r.s.n r.s.k
def Rw'.lost (r : Rw') (f : Wf) (n : Int) : Option Int := lostO f n r.w r.s.n r.s.k r.s.b
def Rw'.cut (r : Rw') (f : Wf) (n : Int) : Option (Int × Int) := cutO f n r.w r.s.n r.s.k r.s.b
def spRipe (K : PySem.W.Frag) (g : Rw' → Wf → Int → Option Int) : Sp := fun vs H Q _ => ∃ (a y : Addr) (r : Rw') (f : Wf) (n : Int) (R : Cells) (D : Hp), vs = [.ref a, .ref y] ∧ HI H R D ∧ IsRow K D a r ∧ YrAt K R D y f n ∧ ∀ H' D', HI H' R D' → Ex D D' → Q (oV (g r f n)) H'
theorem ripe_use {K : PySem.W.Frag} {g : Rw' → Wf → Int → Option Int} {a y : Addr} {r : Rw'} {f : Wf} {n : Int} {R : Cells} {D H : Hp} {Q : VK} {E : XK} (hI : HI H R D) (i : IsRow K D a r) (yr : YrAt K R D y f n) (q : ∀ H' D', HI H' R D' → Ex D D' → Q (oV (g r f n)) H') : spRipe K g [.ref a, .ref y] H Q E := ⟨a, y, r, f, n, R, D, rfl, hI, i, yr, q⟩
theorem YrAt.ins {K : PySem.W.Frag} {R : Cells} {D : Hp} {a : Addr} {f : Wf} {n : Int} (h : YrAt K R D a f n) : ∃ nl td dx, D a = some (.ins (He.ga K "Year") dx [("kept_normal", .ref nl), ("kept_told", .ref td)]) := by
  obtain ⟨nl, td, ns, kvs, m, ⟨⟨dx, e⟩, _⟩, _⟩ := h
  exact ⟨nl, td, dx, e⟩
theorem ylen_use {K : PySem.W.Frag} {y : Addr} {f : Wf} {n : Int} {R : Cells} {D H : Hp} {Q : VK} (hI : HI H R D) (yr : YrAt K R D y f n) (q : Q (.int n) H) : RLenO (He.ga K "Year") (spYLen K) [.ref y] H Q := by
  obtain ⟨nl, td, dx, e⟩ := yr.ins
  have := yr.nn
  exact .o (hI.dat e) ⟨y, f, n, R, D, rfl, hI, yr, n, rfl, by omega, by omega, q⟩
set_option maxHeartbeats 1000000 in
theorem ok_ripe_in {P : Program} {w : World} {K : PySem.W.Frag} {mg : Str → Option Value} {base : Heap} (T : Tx K mg) : FnG P w K mg base 6 (a_ripe_in K) ["row", "year"] (spRipe K Rw'.ripe) := by
  refine T.f_ripe_in.ok sc_ripe_in (fun vs H Q E h => ?_) (fun cdv A outer s H vs Q E hgu hr h => ⟨_, (pss_cons (ps_set (i := 2) sc_ripe_in.nd rfl (Or.inl rfl) pe_int)
 (pss_cons (ps_for (passes_of rfl) rfl (pi_range2 (by rfl) T.n_range (pa_cons (ge_meth0 (pv 0) T.cl_Row T.m_Row_week (ok_Row_week T) hgu (hr.mono (by decide)) T.b_Row_week .nil (fun _ => pass_takes (takes_of rfl rfl rfl rfl))) (pa_cons (pe_op op_addU (pe_callB (call_lenO T.m_Year_len.at_ T.m_Year_len.fn (ok_Year_len T) T.b_Year_len hgu (hr.mono (by decide))) (by rfl) T.n_len boot_len (pa_cons (pv 1) pa_nil)) pe_int) pa_nil))) (pg_name (i := 3) sc_ripe_in.nd rfl (Or.inl rfl)) (pss_cons (ps_aug (i := 2) sc_ripe_in.nd rfl (Or.inl rfl) (ge_meth (pv 1) T.cl_Year T.m_Year_warmth (ok_Year_warmth T) hgu (hr.mono (by decide)) T.b_Year_warmth .nil (fun _ => pass_takes (takes_of rfl rfl rfl rfl)) (pa_cons (pv 3) pa_nil)) ip_add)
 (pss_one (ps_if (pt_cmpR op_ge (pv 2) (ge_meth0 (ge_meth0 (pv 0) T.cl_Row T.m_Row_of_sort (ok_Row_of_sort T) hgu (hr.mono (by decide)) T.b_Row_of_sort .nil (fun _ => pass_takes (takes_of rfl rfl rfl rfl))) T.cl_Sort T.m_Sort_needs (ok_Sort_needs T) hgu (hr.mono (by decide)) T.b_Sort_needs .nil (fun _ => pass_takes (takes_of rfl rfl rfl rfl))) (nomark _)) (pss_one (ps_ret (pv 3))) pss_nil))))
 (pss_one (ps_ret pe_non)))), ?_⟩)
  · obtain ⟨a, y, r, f, n, R, D, rfl, _⟩ := h
    rfl
  · obtain ⟨a, y, r, f, n, R, D, rfl, hI, ir, yr, go⟩ := h
    obtain ⟨ok, dx, sa, ea, is⟩ := id ir
    obtain ⟨nl, td, dy, ey⟩ := yr.ins
    obtain ⟨n1, n52⟩ := yr.nn
    obtain ⟨w0, w1, _, _⟩ := ok
    have go0 := go
    wtm_at "go"
    wtm_at "sg"
    refine rint_use hI ir ?_
    wtm_at "sg"
    refine ylen_use hI yr ?_
    wtm_at "sg"
    refine for_rng (fun i σ R' D' => ∃ v3, σ = [some (.ref a), some (.ref y), some (.int (wpart f r.w i)), v3] ∧ R' = R ∧ D' = D ∧ ∀ j : Nat, j < i → decide (r.s.n ≤ wsum f r.w (r.w + (j : Int))) = false) hI ⟨_, rfl, rfl, rfl, fun j hj => absurd hj (Nat.not_lt_zero j)⟩ (fun i σ R' D' H' hi hI' q => ?_) (fun σ R' D' H' hI' q => ?_)
    · obtain ⟨v3, rfl, rfl, rfl, hno⟩ := q
      wtm_at "sg"
      refine wc_use hI' yr (by omega) (by omega) (fun H2 hI2 => ?_)
      wtm_at "sg"
      refine rsort_use hI2 ir (fun sa2 is2 => ?_)
      obtain ⟨_, dx2, es2⟩ := id is2
      refine meth_mk (hI2.dat es2) rfl ?_
      wtm_at "sg"
      refine get_use hI2 is2 ?_
      wtm_at "sg"
      rw [← wpart_succ, ← wsum_at]
      by_cases hd : r.s.n ≤ wsum f r.w (r.w + (i : Int))
      · rw [decide_eq_true hd]
        wtm_at "sg"
        have e : r.ripe f n = some (r.w + (i : Int)) := fst_hit hi (decide_eq_true hd) hno
        have g := go0 _ _ hI2 (Ex.refl _)
        rw [e] at g
        exact g
      · rw [decide_eq_false hd]
        wtm_at "sg"
        refine ⟨_, _, hI2, _, by rw [wsum_at], rfl, rfl, fun j hj => ?_⟩
        by_cases e : j = i
        · rw [e]
          exact decide_eq_false hd
        · exact hno j (by omega)
    · obtain ⟨v3, rfl, rfl, rfl, hno⟩ := q
      wtm_at "sg"
      have e : r.ripe f n = none := fst_none hno
      have g := go0 _ _ hI' (Ex.refl _)
      rw [e] at g
      exact g
set_option maxHeartbeats 1000000 in
theorem ok_last_in {P : Program} {w : World} {K : PySem.W.Frag} {mg : Str → Option Value} {base : Heap} (T : Tx K mg) : FnG P w K mg base 7 (a_last_in K) ["row", "year"] (spRipe K Rw'.last) := by
  refine T.f_last_in.ok sc_last_in (fun vs H Q E h => ?_) (fun cdv A outer s H vs Q E hgu hr h => ⟨_, (pss_cons (ps_if (pt_cmpR op_gt (ge_meth0 (pv 0) T.cl_Row T.m_Row_week (ok_Row_week T) hgu (hr.mono (by decide)) T.b_Row_week .nil (fun _ => pass_takes (takes_of rfl rfl rfl rfl))) (pe_callB (call_lenO T.m_Year_len.at_ T.m_Year_len.fn (ok_Year_len T) T.b_Year_len hgu (hr.mono (by decide))) (by rfl) T.n_len boot_len (pa_cons (pv 1) pa_nil)) (nomark _)) (pss_one (ps_ret pe_non)) pss_nil)
 (pss_cons (ps_set (i := 2) sc_last_in.nd rfl (Or.inl rfl) (ge_call (ok_ripe_in T) hgu (hr.mono (by decide)) rfl T.g_ripe_in T.k_ripe_in T.b_ripe_in .nil (fun _ => pass_takes (takes_of rfl rfl rfl rfl)) (pa_cons (pv 0) (pa_cons (pv 1) pa_nil))))
 (pss_cons (ps_if (pt_cmpR op_isU (pv 2) pe_non (nomark _)) (pss_one (ps_ret (pe_callB (call_lenO T.m_Year_len.at_ T.m_Year_len.fn (ok_Year_len T) T.b_Year_len hgu (hr.mono (by decide))) (by rfl) T.n_len boot_len (pa_cons (pv 1) pa_nil)))) pss_nil)
 (pss_one (ps_ret (pe_callB (call_minU rfl) (by rfl) T.n_min boot_min (pa_cons (pe_callB (call_lenO T.m_Year_len.at_ T.m_Year_len.fn (ok_Year_len T) T.b_Year_len hgu (hr.mono (by decide))) (by rfl) T.n_len boot_len (pa_cons (pv 1) pa_nil)) (pa_cons (pe_op op_sub (pe_op op_addU (pv 2) (ge_meth0 (ge_meth0 (pv 0) T.cl_Row T.m_Row_of_sort (ok_Row_of_sort T) hgu (hr.mono (by decide)) T.b_Row_of_sort .nil (fun _ => pass_takes (takes_of rfl rfl rfl rfl))) T.cl_Sort T.m_Sort_keeps (ok_Sort_keeps T) hgu (hr.mono (by decide)) T.b_Sort_keeps .nil (fun _ => pass_takes (takes_of rfl rfl rfl rfl)))) pe_int) pa_nil)))))))), ?_⟩)
  · obtain ⟨a, y, r, f, n, R, D, rfl, _⟩ := h
    rfl
  · obtain ⟨a, y, r, f, n, R, D, rfl, hI, ir, yr, go⟩ := h
    obtain ⟨ok, dx, sa, ea, is⟩ := id ir
    obtain ⟨nl, td, dy, ey⟩ := yr.ins
    obtain ⟨n1, n52⟩ := yr.nn
    obtain ⟨w0, w1, _, _⟩ := ok
    wtm_at "go"
    wtm_at "sg"
    refine rint_use hI ir ?_
    wtm_at "sg"
    refine ylen_use hI yr ?_
    wtm_at "sg"
    by_cases hn : n < r.w
    · rw [decide_eq_true (show r.w > n from hn)]
      wtm_at "sg"
      have g := go _ _ hI (Ex.refl _)
      rw [show r.last f n = none from if_pos hn] at g
      exact g
    · rw [decide_eq_false (show ¬ r.w > n from hn)]
      wtm_at "sg"
      refine ripe_use hI ir yr (fun H1 D1 hI1 x1 => ?_)
      wtm_at "sg"
      have g0 := go _ _ hI1 x1
      have e0 : r.last f n = match r.ripe f n with
        | none => some n
        | some k => some (min n (k + r.s.k - 1)) := if_neg hn
      cases er : r.ripe f n with
      | none =>
        rw [er] at e0
        rw [e0] at g0
        refine if_yes rfl ?_
        wtm_at "sg"
        exact ylen_use hI1 (yr.mono x1) g0
      | some k =>
        rw [er] at e0
        rw [e0] at g0
        refine if_no (fun z => by cases z) ?_
        dsimp only [oV]
        wtm_at "sg"
        refine ylen_use hI1 (yr.mono x1) ?_
        wtm_at "sg"
        refine rsort_use hI1 (ir.mono x1) (fun sa2 is2 => ?_)
        obtain ⟨_, dx2, es2⟩ := id is2
        refine meth_mk (hI1.dat es2) rfl ?_
        wtm_at "sg"
        refine get_use hI1 is2 ?_
        wtm_at "sg"
        rename_i mm m1 m2 m3
        have : mm = min n (k + r.s.k - 1) := by omega
        rw [this]
        exact g0
theorem least_true (P : Nat → Bool) : ∀ n : Nat, P n = true → ∃ i, i ≤ n ∧ P i = true ∧ ∀ j, j < i → P j = false
  | n, h => by
    by_cases e : ∃ m, m < n ∧ P m = true
    · obtain ⟨m, hm, pm⟩ := e
      obtain ⟨i, a, b, c⟩ := least_true P m pm
      exact ⟨i, by omega, b, c⟩
    · refine ⟨n, Nat.le_refl _, h, fun j hj => ?_⟩
      cases q : P j with
      | false => rfl
      | true => exact absurd ⟨j, hj, q⟩ e
  termination_by n => n
theorem fst_eq {p : Int → Bool} {s n k : Int} (a : s ≤ k) (b : k ≤ n) (c : p k = true) (d : ∀ j, s ≤ j → j < k → p j = false) : fstW p s n = some k := by
  have e : s + (((k - s).toNat : Nat) : Int) = k := by omega
  have h := fst_hit (p := p) (s := s) (n := n) (i := (k - s).toNat) (by omega) (by rw [e]; exact c) (fun j hj => d _ (by omega) (by omega))
  rw [e] at h
  exact h
theorem fst_min {p : Int → Bool} {s n k : Int} (h : fstW p s n = some k) : ∀ j, s ≤ j → j < k → p j = false := fun j hs hk => by
  cases q : p j with
  | false => rfl
  | true =>
    obtain ⟨i, a, b, c⟩ := least_true (fun i => p (s + (i : Int))) (j - s).toNat (by rw [show s + (((j - s).toNat : Nat) : Int) = j by omega]; exact q)
    have hb := fst_some h
    have := fst_hit (p := p) (s := s) (n := n) (i := i) (by omega) b c
    rw [h] at this
    have := Option.some.inj this
    omega
set_option maxHeartbeats 1000000 in
theorem ok_lost_in {P : Program} {w : World} {K : PySem.W.Frag} {mg : Str → Option Value} {base : Heap} (T : Tx K mg) : FnG P w K mg base 8 (a_lost_in K) ["row", "year"] (spRipe K Rw'.lost) := by
  refine T.f_lost_in.ok sc_lost_in (fun vs H Q E h => ?_) (fun cdv A outer s H vs Q E hgu hr h => ⟨_, (pss_cons (ps_set (i := 2) sc_lost_in.nd rfl (Or.inl rfl) (ge_call (ok_last_in T) hgu (hr.mono (by decide)) rfl T.g_last_in T.k_last_in T.b_last_in .nil (fun _ => pass_takes (takes_of rfl rfl rfl rfl)) (pa_cons (pv 0) (pa_cons (pv 1) pa_nil))))
 (pss_cons (ps_if (pt_cmpR op_isU (pv 2) pe_non (nomark _)) (pss_one (ps_ret pe_non)) pss_nil)
 (pss_cons (ps_for (passes_of rfl) rfl (pi_range2 (by rfl) T.n_range (pa_cons (ge_meth0 (pv 0) T.cl_Row T.m_Row_week (ok_Row_week T) hgu (hr.mono (by decide)) T.b_Row_week .nil (fun _ => pass_takes (takes_of rfl rfl rfl rfl))) (pa_cons (pe_op op_addU (pv 2) pe_int) pa_nil))) (pg_name (i := 3) sc_lost_in.nd rfl (Or.inl rfl)) (pss_one (ps_if (pt_cmpR op_lt (ge_meth (pv 1) T.cl_Year T.m_Year_cold (ok_Year_cold T) hgu (hr.mono (by decide)) T.b_Year_cold .nil (fun _ => pass_takes (takes_of rfl rfl rfl rfl)) (pa_cons (pv 3) pa_nil)) (ge_meth0 (ge_meth0 (pv 0) T.cl_Row T.m_Row_of_sort (ok_Row_of_sort T) hgu (hr.mono (by decide)) T.b_Row_of_sort .nil (fun _ => pass_takes (takes_of rfl rfl rfl rfl))) T.cl_Sort T.m_Sort_bears (ok_Sort_bears T) hgu (hr.mono (by decide)) T.b_Sort_bears .nil (fun _ => pass_takes (takes_of rfl rfl rfl rfl))) (nomark _)) (pss_one (ps_ret (pv 3))) pss_nil)))
 (pss_one (ps_ret pe_non))))), ?_⟩)
  · obtain ⟨a, y, r, f, n, R, D, rfl, _⟩ := h
    rfl
  · obtain ⟨a, y, r, f, n, R, D, rfl, hI, ir, yr, go⟩ := h
    obtain ⟨ok, dx, sa, ea, is⟩ := id ir
    obtain ⟨nl, td, dy, ey⟩ := yr.ins
    obtain ⟨n1, n52⟩ := yr.nn
    obtain ⟨w0, w1, _, _⟩ := ok
    wtm_at "go"
    wtm_at "sg"
    refine ripe_use hI ir yr (fun H1 D1 hI1 x1 => ?_)
    wtm_at "sg"
    cases el : r.last f n with
    | none =>
      refine if_yes rfl ?_
      wtm_at "sg"
      have g := go _ _ hI1 x1
      have e : r.lost f n = none := by
        have : lastO f n r.w r.s.n r.s.k = none := el
        show (lastO f n r.w r.s.n r.s.k).bind _ = none
        rw [this]
        rfl
      rw [e] at g
      exact g
    | some l =>
      have hlost : r.lost f n = fstW (fun k => decide ((f k).2 < r.s.b)) r.w l := by
        have : lastO f n r.w r.s.n r.s.k = some l := el
        show (lastO f n r.w r.s.n r.s.k).bind _ = _
        rw [this]
        rfl
      obtain ⟨l0, l1⟩ := last_in_year is.1.k0 el
      refine if_no (fun z => by cases z) ?_
      dsimp only [oV]
      wtm_at "sg"
      refine rint_use hI1 (ir.mono x1) ?_
      wtm_at "sg"
      refine for_rng (fun i σ R' D' => ∃ v3, σ = [some (.ref a), some (.ref y), some (.int l), v3] ∧ R' = R ∧ D' = D1 ∧ ∀ j : Nat, j < i → decide ((f (r.w + (j : Int))).2 < r.s.b) = false) hI1 ⟨_, rfl, rfl, rfl, fun j hj => absurd hj (Nat.not_lt_zero j)⟩ (fun i σ R' D' H' hi hI' q => ?_) (fun σ R' D' H' hI' q => ?_)
      · obtain ⟨v3, rfl, rfl, rfl, hno⟩ := q
        wtm_at "sg"
        refine wc_use hI' (yr.mono x1) (by omega) (by omega) (fun H2 hI2 => ?_)
        wtm_at "sg"
        refine rsort_use hI2 (ir.mono x1) (fun sa2 is2 => ?_)
        obtain ⟨_, dx2, es2⟩ := id is2
        refine meth_mk (hI2.dat es2) rfl ?_
        wtm_at "sg"
        refine get_use hI2 is2 ?_
        wtm_at "sg"
        by_cases hd : (f (r.w + (i : Int))).2 < r.s.b
        · rw [decide_eq_true hd]
          wtm_at "sg"
          have e : r.lost f n = some (r.w + (i : Int)) := hlost.trans (fst_hit hi (decide_eq_true hd) hno)
          have g := go _ _ hI2 x1
          rw [e] at g
          exact g
        · rw [decide_eq_false hd]
          wtm_at "sg"
          refine ⟨_, _, hI2, _, rfl, rfl, rfl, fun j hj => ?_⟩
          by_cases e : j = i
          · rw [e]
            exact decide_eq_false hd
          · exact hno j (by omega)
      · obtain ⟨v3, rfl, rfl, rfl, hno⟩ := q
        wtm_at "sg"
        have e : r.lost f n = none := hlost.trans (fst_none hno)
        have g := go _ _ hI' x1
        rw [e] at g
        exact g
def CutAt (D : Hp) (v : V) : Option (Int × Int) → Prop
  | none => v = .non
  | some p => PairAt D v p
theorem CutAt.mono {D D' : Hp} {v : V} {o : Option (Int × Int)} (h : CutAt D v o) (x : Ex D D') : CutAt D' v o := by
  cases o with
  | none => exact h
  | some p => exact PairAt.mono h x
def spReady (K : PySem.W.Frag) : Sp := fun vs H Q _ => ∃ (a y : Addr) (r : Rw') (f : Wf) (n : Int) (R : Cells) (D : Hp), vs = [.ref a, .ref y] ∧ HI H R D ∧ IsRow K D a r ∧ YrAt K R D y f n ∧ ∀ v H' D', HI H' R D' → Ex D D' → CutAt D' v (r.cut f n) → Q v H'
theorem ready_use {K : PySem.W.Frag} {a y : Addr} {r : Rw'} {f : Wf} {n : Int} {R : Cells} {D H : Hp} {Q : VK} {E : XK} (hI : HI H R D) (i : IsRow K D a r) (yr : YrAt K R D y f n) (q : ∀ v H' D', HI H' R D' → Ex D D' → CutAt D' v (r.cut f n) → Q v H') : spReady K [.ref a, .ref y] H Q E := ⟨a, y, r, f, n, R, D, rfl, hI, i, yr, q⟩
theorem ripe_last {f : Wf} {n s need keeps k : Int} (h : ripeO f n s need = some k) : lastO f n s need keeps = some (min n (k + keeps - 1)) := by
  obtain ⟨a, b⟩ := ripe_in_year h
  unfold lastO
  rw [if_neg (by omega), h]
set_option maxHeartbeats 1000000 in
theorem ok_ready_in {P : Program} {w : World} {K : PySem.W.Frag} {mg : Str → Option Value} {base : Heap} (T : Tx K mg) : FnG P w K mg base 9 (a_ready_in K) ["row", "year"] (spReady K) := by
  refine T.f_ready_in.ok sc_ready_in (fun vs H Q E h => ?_) (fun cdv A outer s H vs Q E hgu hr h => ⟨_, (pss_cons (ps_set (i := 2) sc_ready_in.nd rfl (Or.inl rfl) (ge_call (ok_ripe_in T) hgu (hr.mono (by decide)) rfl T.g_ripe_in T.k_ripe_in T.b_ripe_in .nil (fun _ => pass_takes (takes_of rfl rfl rfl rfl)) (pa_cons (pv 0) (pa_cons (pv 1) pa_nil))))
 (pss_cons (ps_set (i := 3) sc_ready_in.nd rfl (Or.inl rfl) (ge_call (ok_lost_in T) hgu (hr.mono (by decide)) rfl T.g_lost_in T.k_lost_in T.b_lost_in .nil (fun _ => pass_takes (takes_of rfl rfl rfl rfl)) (pa_cons (pv 0) (pa_cons (pv 1) pa_nil))))
 (pss_cons (ps_if (PW.pt (pw_or (pt_cmpR op_isU (pv 2) pe_non (nomark _)) (pw_or1 (PW.pt (pw_and (pt_cmpR op_isnU (pv 3) pe_non (nomark _)) (pw_and1 (pt_cmpR op_le (pv 3) (pv 2) (nomark _)))))))) (pss_one (ps_ret pe_non)) pss_nil)
 (pss_one (ps_ret (pe_tup (pa_cons (pv 2) (pa_cons (pe_ifExp (pt_cmpR op_isU (pv 3) pe_non (nomark _)) (ge_call (ok_last_in T) hgu (hr.mono (by decide)) rfl T.g_last_in T.k_last_in T.b_last_in .nil (fun _ => pass_takes (takes_of rfl rfl rfl rfl)) (pa_cons (pv 0) (pa_cons (pv 1) pa_nil))) (pe_op op_sub (pv 3) pe_int)) pa_nil)))))))), ?_⟩)
  · obtain ⟨a, y, r, f, n, R, D, rfl, _⟩ := h
    rfl
  · obtain ⟨a, y, r, f, n, R, D, rfl, hI, ir, yr, go⟩ := h
    wtm_at "go"
    wtm_at "sg"
    refine ripe_use hI ir yr (fun H1 D1 hI1 x1 => ?_)
    wtm_at "sg"
    refine ripe_use hI1 (ir.mono x1) (yr.mono x1) (fun H2 D2 hI2 x2 => ?_)
    wtm_at "sg"
    have hcut : r.cut f n = match r.ripe f n with
      | none => none
      | some k => match r.lost f n with
        | none => some (k, (r.last f n).getD 0)
        | some l => if l ≤ k then none else some (k, l - 1) := rfl
    cases er : r.ripe f n with
    | none =>
      rw [er] at hcut
      refine if_yes rfl ?_
      wtm_at "sg"
      exact go _ _ _ hI2 (x1.trans x2) (by rw [hcut]; rfl)
    | some k =>
      rw [er] at hcut
      refine if_no (fun z => by cases z) ?_
      dsimp only [oV]
      wtm_at "sg"
      cases el : r.lost f n with
      | none =>
        rw [el] at hcut
        refine if_yesN rfl ?_
        dsimp only [oV]
        wtm_at "sg"
        refine ripe_use hI2 (ir.mono (x1.trans x2)) (yr.mono (x1.trans x2)) (fun H3 D3 hI3 x3 => ?_)
        have : r.last f n = some (min n (k + r.s.k - 1)) := ripe_last er
        rw [this]
        dsimp only [oV]
        wtm_at "sg"
        rename_i p H4 D4 hI4 x4 e4
        exact go _ _ _ hI4 (by wtm_at "ex") (by rw [hcut, this]; exact ⟨p, rfl, e4⟩)
      | some l =>
        rw [el] at hcut
        refine if_noN (fun z => by cases z) ?_
        dsimp only [oV]
        wtm_at "sg"
        by_cases hd : l ≤ k
        · rw [decide_eq_true hd]
          wtm_at "sg"
          exact go _ _ _ hI2 (x1.trans x2) (by rw [hcut]; show CutAt _ _ (if l ≤ k then none else _); rw [if_pos hd]; rfl)
        · rw [decide_eq_false hd]
          wtm_at "sg"
          rename_i p H4 D4 hI4 x4 e4
          exact go _ _ _ hI4 (by wtm_at "ex") (by rw [hcut]; show CutAt _ _ (if l ≤ k then none else _); rw [if_neg hd]; exact ⟨p, rfl, e4⟩)
def spNeedRowG (K : PySem.W.Frag) : Sp := fun vs H Q _ => ∃ (a : Addr) (r : Rw') (R : Cells) (D : Hp), vs = [.ref a] ∧ HI H R D ∧ IsRow K D a r ∧ Q .non H
theorem YrAt.ty {K : PySem.W.Frag} {R : Cells} {D : Hp} {a : Addr} {f : Wf} {n : Int} (i : InsC K (He.ga K "Year")) (h : YrAt K R D a f n) : Ty K D (.ref a) (.ref (He.ga K "Year")) := by
  obtain ⟨nl, td, dx, e⟩ := h.ins
  exact .o (.ins e i)
theorem ok_need_row {P : Program} {w : World} {K : PySem.W.Frag} {mg : Str → Option Value} {base : Heap} (T : Tx K mg) : FnG P w K mg base 4 (a_need_row K) ["row"] (spNeedRowG K) := by
  refine T.f_need_row.ok sc_need_row (fun vs H Q E h => ?_) (fun cdv A outer s H vs Q E hgu hr h => ⟨_, (pss_one (ps_if (pt_not (pt_val (pe_callB (show CallR _ (.builtin "isinstance") (RIsiC K) from call_isiC) (by rfl) T.n_isinstance boot_isinstance (pa_cons (pv 0) (pa_cons (pe_glob (v := .ref (He.ga K "Row")) rfl T.g_Row rfl) pa_nil))))) (pss_one (ps_raiseX rfl (takes_of rfl rfl rfl rfl) T.x_NoRow (ok_NoRow_init T) T.b_NoRow_init (hr.mono (by decide)) rfl (pa_cons (pv 0) pa_nil))) pss_nil)), ?_⟩)
  · obtain ⟨a, r, R, D, rfl, _⟩ := h
    rfl
  · obtain ⟨a, r, R, D, rfl, hI, ir, go⟩ := h
    wtm_at "go"
    wtm_at "sg"
    refine RIsiC.ty ((ir.ty T.in_Row).mono hI.sub) T.ki_Row_Row ?_
    wtm_at "sg"
    exact go
def spNeedYearG (K : PySem.W.Frag) : Sp := fun vs H Q _ => ∃ (a : Addr) (f : Wf) (n : Int) (R : Cells) (D : Hp), vs = [.ref a] ∧ HI H R D ∧ YrAt K R D a f n ∧ Q .non H
theorem ok_need_year {P : Program} {w : World} {K : PySem.W.Frag} {mg : Str → Option Value} {base : Heap} (T : Tx K mg) : FnG P w K mg base 4 (a_need_year K) ["year"] (spNeedYearG K) := by
  refine T.f_need_year.ok sc_need_year (fun vs H Q E h => ?_) (fun cdv A outer s H vs Q E hgu hr h => ⟨_, (pss_one (ps_if (pt_not (pt_val (pe_callB (show CallR _ (.builtin "isinstance") (RIsiC K) from call_isiC) (by rfl) T.n_isinstance boot_isinstance (pa_cons (pv 0) (pa_cons (pe_glob (v := .ref (He.ga K "Year")) rfl T.g_Year rfl) pa_nil))))) (pss_one (ps_raiseX rfl (takes_of rfl rfl rfl rfl) T.x_NoYear (ok_NoYear_init T) T.b_NoYear_init (hr.mono (by decide)) rfl (pa_cons (pv 0) pa_nil))) pss_nil)), ?_⟩)
  · obtain ⟨a, f, n, R, D, rfl, _⟩ := h
    rfl
  · obtain ⟨a, f, n, R, D, rfl, hI, yr, go⟩ := h
    wtm_at "go"
    wtm_at "sg"
    refine RIsiC.ty ((yr.ty T.in_Year).mono hI.sub) T.ki_Year_Year ?_
    wtm_at "sg"
    exact go
theorem ok_ripe_week {P : Program} {w : World} {K : PySem.W.Frag} {mg : Str → Option Value} {base : Heap} (T : Tx K mg) : FnG P w K mg base 7 (a_ripe_week K) ["row", "year"] (spRipe K Rw'.ripe) := by
  refine T.f_ripe_week.ok sc_ripe_week (fun vs H Q E h => ?_) (fun cdv A outer s H vs Q E hgu hr h => ⟨_, (pss_cons (ps_expr (ge_call (ok_need_row T) hgu (hr.mono (by decide)) rfl T.g_need_row T.k_need_row T.b_need_row .nil (fun _ => pass_takes (takes_of rfl rfl rfl rfl)) (pa_cons (pv 0) pa_nil)))
 (pss_cons (ps_expr (ge_call (ok_need_year T) hgu (hr.mono (by decide)) rfl T.g_need_year T.k_need_year T.b_need_year .nil (fun _ => pass_takes (takes_of rfl rfl rfl rfl)) (pa_cons (pv 1) pa_nil)))
 (pss_one (ps_ret (ge_call (ok_ripe_in T) hgu (hr.mono (by decide)) rfl T.g_ripe_in T.k_ripe_in T.b_ripe_in .nil (fun _ => pass_takes (takes_of rfl rfl rfl rfl)) (pa_cons (pv 0) (pa_cons (pv 1) pa_nil))))))), ?_⟩)
  · obtain ⟨a, y, r, f, n, R, D, rfl, _⟩ := h
    rfl
  · obtain ⟨a, y, r, f, n, R, D, rfl, hI, ir, yr, go⟩ := h
    wtm_at "go"
    wtm_at "sg"
    refine ⟨a, r, R, D, rfl, hI, ir, ?_⟩
    wtm_at "sg"
    refine ⟨y, f, n, R, D, rfl, hI, yr, ?_⟩
    wtm_at "sg"
    exact ripe_use hI ir yr go
theorem ok_last_stand {P : Program} {w : World} {K : PySem.W.Frag} {mg : Str → Option Value} {base : Heap} (T : Tx K mg) : FnG P w K mg base 8 (a_last_stand K) ["row", "year"] (spRipe K Rw'.last) := by
  refine T.f_last_stand.ok sc_last_stand (fun vs H Q E h => ?_) (fun cdv A outer s H vs Q E hgu hr h => ⟨_, (pss_cons (ps_expr (ge_call (ok_need_row T) hgu (hr.mono (by decide)) rfl T.g_need_row T.k_need_row T.b_need_row .nil (fun _ => pass_takes (takes_of rfl rfl rfl rfl)) (pa_cons (pv 0) pa_nil)))
 (pss_cons (ps_expr (ge_call (ok_need_year T) hgu (hr.mono (by decide)) rfl T.g_need_year T.k_need_year T.b_need_year .nil (fun _ => pass_takes (takes_of rfl rfl rfl rfl)) (pa_cons (pv 1) pa_nil)))
 (pss_one (ps_ret (ge_call (ok_last_in T) hgu (hr.mono (by decide)) rfl T.g_last_in T.k_last_in T.b_last_in .nil (fun _ => pass_takes (takes_of rfl rfl rfl rfl)) (pa_cons (pv 0) (pa_cons (pv 1) pa_nil))))))), ?_⟩)
  · obtain ⟨a, y, r, f, n, R, D, rfl, _⟩ := h
    rfl
  · obtain ⟨a, y, r, f, n, R, D, rfl, hI, ir, yr, go⟩ := h
    wtm_at "go"
    wtm_at "sg"
    refine ⟨a, r, R, D, rfl, hI, ir, ?_⟩
    wtm_at "sg"
    refine ⟨y, f, n, R, D, rfl, hI, yr, ?_⟩
    wtm_at "sg"
    exact ripe_use hI ir yr go
theorem ok_lost_week {P : Program} {w : World} {K : PySem.W.Frag} {mg : Str → Option Value} {base : Heap} (T : Tx K mg) : FnG P w K mg base 9 (a_lost_week K) ["row", "year"] (spRipe K Rw'.lost) := by
  refine T.f_lost_week.ok sc_lost_week (fun vs H Q E h => ?_) (fun cdv A outer s H vs Q E hgu hr h => ⟨_, (pss_cons (ps_expr (ge_call (ok_need_row T) hgu (hr.mono (by decide)) rfl T.g_need_row T.k_need_row T.b_need_row .nil (fun _ => pass_takes (takes_of rfl rfl rfl rfl)) (pa_cons (pv 0) pa_nil)))
 (pss_cons (ps_expr (ge_call (ok_need_year T) hgu (hr.mono (by decide)) rfl T.g_need_year T.k_need_year T.b_need_year .nil (fun _ => pass_takes (takes_of rfl rfl rfl rfl)) (pa_cons (pv 1) pa_nil)))
 (pss_one (ps_ret (ge_call (ok_lost_in T) hgu (hr.mono (by decide)) rfl T.g_lost_in T.k_lost_in T.b_lost_in .nil (fun _ => pass_takes (takes_of rfl rfl rfl rfl)) (pa_cons (pv 0) (pa_cons (pv 1) pa_nil))))))), ?_⟩)
  · obtain ⟨a, y, r, f, n, R, D, rfl, _⟩ := h
    rfl
  · obtain ⟨a, y, r, f, n, R, D, rfl, hI, ir, yr, go⟩ := h
    wtm_at "go"
    wtm_at "sg"
    refine ⟨a, r, R, D, rfl, hI, ir, ?_⟩
    wtm_at "sg"
    refine ⟨y, f, n, R, D, rfl, hI, yr, ?_⟩
    wtm_at "sg"
    exact ripe_use hI ir yr go
theorem ok_ready {P : Program} {w : World} {K : PySem.W.Frag} {mg : Str → Option Value} {base : Heap} (T : Tx K mg) : FnG P w K mg base 10 (a_ready K) ["row", "year"] (spReady K) := by
  refine T.f_ready.ok sc_ready (fun vs H Q E h => ?_) (fun cdv A outer s H vs Q E hgu hr h => ⟨_, (pss_cons (ps_expr (ge_call (ok_need_row T) hgu (hr.mono (by decide)) rfl T.g_need_row T.k_need_row T.b_need_row .nil (fun _ => pass_takes (takes_of rfl rfl rfl rfl)) (pa_cons (pv 0) pa_nil)))
 (pss_cons (ps_expr (ge_call (ok_need_year T) hgu (hr.mono (by decide)) rfl T.g_need_year T.k_need_year T.b_need_year .nil (fun _ => pass_takes (takes_of rfl rfl rfl rfl)) (pa_cons (pv 1) pa_nil)))
 (pss_one (ps_ret (ge_call (ok_ready_in T) hgu (hr.mono (by decide)) rfl T.g_ready_in T.k_ready_in T.b_ready_in .nil (fun _ => pass_takes (takes_of rfl rfl rfl rfl)) (pa_cons (pv 0) (pa_cons (pv 1) pa_nil))))))), ?_⟩)
  · obtain ⟨a, y, r, f, n, R, D, rfl, _⟩ := h
    rfl
  · obtain ⟨a, y, r, f, n, R, D, rfl, hI, ir, yr, go⟩ := h
    wtm_at "go"
    wtm_at "sg"
    refine ⟨a, r, R, D, rfl, hI, ir, ?_⟩
    wtm_at "sg"
    refine ⟨y, f, n, R, D, rfl, hI, yr, ?_⟩
    wtm_at "sg"
    exact ready_use hI ir yr go
def inCut (o : Option (Int × Int)) (k : Int) : Bool := match o with
  | none => false
  | some p => decide (p.1 ≤ k) && decide (k ≤ p.2)
def headsW (rs : List Rw') (f : Wf) (n k : Int) : Int := (rs.map fun r => if inCut (r.cut f n) k then r.h else 0).sum
/-- rows that stand in a list or a tuple -/
structure RsAt (K : PySem.W.Frag) (R : Cells) (D : Hp) (p : Addr) (rs : List (Addr × Rw')) : Prop where
  s : Sq3 R D p (rs.map fun r => .ref r.1)
  i : ∀ r ∈ rs, IsRow K D r.1 r.2
  l : rs.length ≤ 40
theorem RsAt.mono {K : PySem.W.Frag} {R : Cells} {D D' : Hp} {p : Addr} {rs : List (Addr × Rw')} (h : RsAt K R D p rs) (x : Ex D D') : RsAt K R D' p rs := ⟨h.s.mono x, fun r hr => (h.i r hr).mono x, h.l⟩
theorem RsAt.sub {K : PySem.W.Frag} {R R' : Cells} {D : Hp} {p : Addr} {rs : List (Addr × Rw')} (h : RsAt K R D p rs) (s : ∀ q ∈ R, q ∈ R') : RsAt K R' D p rs := ⟨h.s.sub s, h.i, h.l⟩
def spNeedRowsG (K : PySem.W.Frag) : Sp := fun vs H Q _ => ∃ (p : Addr) (rs : List (Addr × Rw')) (R : Cells) (D : Hp), vs = [.ref p] ∧ HI H R D ∧ RsAt K R D p rs ∧ ∀ H' D', HI H' R D' → Ex D D' → Q .non H'
theorem ok_need_rows {P : Program} {w : World} {K : PySem.W.Frag} {mg : Str → Option Value} {base : Heap} (T : Tx K mg) : FnG P w K mg base 5 (a_need_rows K) ["rows"] (spNeedRowsG K) := by
  refine T.f_need_rows.ok sc_need_rows (fun vs H Q E h => ?_) (fun cdv A outer s H vs Q E hgu hr h => ⟨_, (pss_cons (ps_if (PW.pt (pw_or (pt_not (pt_val (pe_callB (show CallR _ (.builtin "isinstance") (RIsiT K) from call_isiTU) (by rfl) T.n_isinstance boot_isinstance (pa_cons (pv 0) (pa_cons (pe_tup (pa_cons (pe_bltn (v := .ty "list") (by rfl) T.n_list boot_list rfl) (pa_cons (pe_bltn (v := .ty "tuple") (by rfl) T.n_tuple boot_tuple rfl) pa_nil))) pa_nil))))) (pw_or1 (pt_cmpR op_gt (pe_callB (call_lenU) (by rfl) T.n_len boot_len (pa_cons (pv 0) pa_nil)) (pe_gi rfl T.c_MOST_ROWS) (nomark _))))) (pss_one (ps_raiseX rfl (takes_of rfl rfl rfl rfl) T.x_NoList (ok_NoList_init T) T.b_NoList_init (hr.mono (by decide)) rfl (pa_cons (pv 0) pa_nil))) pss_nil)
 (pss_one (ps_for (passes_of rfl) rfl (pi_seq (pv 0)) (pg_name (i := 1) sc_need_rows.nd rfl (Or.inl rfl)) (pss_one (ps_expr (ge_call (ok_need_row T) hgu (hr.mono (by decide)) rfl T.g_need_row T.k_need_row T.b_need_row .nil (fun _ => pass_takes (takes_of rfl rfl rfl rfl)) (pa_cons (pv 1) pa_nil))))))), ?_⟩)
  · obtain ⟨p, rs, R, D, rfl, _⟩ := h
    rfl
  · obtain ⟨p, rs, R, D, rfl, hI, ra, go⟩ := h
    wtm_at "go"
    wtm_at "sh"
    refine Sq3.isi (by assumption) (ra.s.mono (by assumption)) (by wtm_at "hp") ?_
    wtm_at "sh"
    refine Sq3.len (by assumption) (ra.s.mono (by assumption)) ?_
    have hl := ra.l
    rw [List.length_map]
    wtm_at "sh"
    rename_i pT H1 D1 hI1 x1 eT
    refine for_seq (ra.s.mono x1) (fun i σ R' D' => ∃ v1, σ = [some (.ref p), v1] ∧ R' = R ∧ D' = D1) hI1 ⟨_, rfl, rfl, rfl⟩ (fun i σ R' D' q => ?_) (fun i v σ R' D' H' hv hI' q => ?_) (fun σ R' D' H' hI' q => ?_)
    · obtain ⟨_, _, rfl, rfl⟩ := q
      exact ⟨fun _ q => q, Ex.refl _⟩
    · obtain ⟨v1, rfl, rfl, rfl⟩ := q
      rw [List.getElem?_map] at hv
      obtain ⟨r, hr1, rfl⟩ := Option.map_eq_some_iff.mp hv
      wtm_at "sh"
      refine ⟨r.1, r.2, _, _, rfl, hI', (ra.i r (List.mem_of_getElem? hr1)).mono x1, ?_⟩
      exact ⟨_, _, hI', _, rfl, rfl, rfl⟩
    · obtain ⟨v1, rfl, rfl, rfl⟩ := q
      wtm_at "sh"
      exact go _ _ hI' x1
theorem need_rows_use {K : PySem.W.Frag} {p : Addr} {rs : List (Addr × Rw')} {R : Cells} {D H : Hp} {Q : VK} {E : XK} (hI : HI H R D) (ra : RsAt K R D p rs) (go : ∀ H' D', HI H' R D' → Ex D D' → Q .non H') : spNeedRowsG K [.ref p] H Q E := ⟨p, rs, R, D, rfl, hI, ra, go⟩
theorem need_year_use {K : PySem.W.Frag} {a : Addr} {f : Wf} {n : Int} {R : Cells} {D H : Hp} {Q : VK} {E : XK} (hI : HI H R D) (yr : YrAt K R D a f n) (q : Q .non H) : spNeedYearG K [.ref a] H Q E := ⟨a, f, n, R, D, rfl, hI, yr, q⟩
def leO (o : Option Int) (k : Int) : Bool := match o with
  | none => false
  | some x => decide (x ≤ k)
def wordO (f : Wf) (n s need keeps bears k : Int) : Str := match lastO f n s need keeps with
  | none => Str.ofString "unsown"
  | some l => if k < s then Str.ofString "unsown" else if leO (lostO f n s need keeps bears) k = true then Str.ofString "lost" else if l < k then Str.ofString "over" else if leO (ripeO f n s need) k = true then Str.ofString "ripe" else Str.ofString "grows"
def Rw'.word (r : Rw') (f : Wf) (n k : Int) : Str := wordO f n r.w r.s.n r.s.k r.s.b k
def spState (K : PySem.W.Frag) : Sp := fun vs H Q _ => ∃ (a y : Addr) (k : Int) (r : Rw') (f : Wf) (n : Int) (R : Cells) (D : Hp), vs = [.ref a, .ref y, .int k] ∧ HI H R D ∧ IsRow K D a r ∧ YrAt K R D y f n ∧ 1 ≤ k ∧ k ≤ n ∧
  ∀ H' D', HI H' R D' → Ex D D' → Q (.str (r.word f n k)) H'
set_option maxHeartbeats 1000000 in
theorem ok_state {P : Program} {w : World} {K : PySem.W.Frag} {mg : Str → Option Value} {base : Heap} (T : Tx K mg) : FnG P w K mg base 9 (a_state K) ["row", "year", "week"] (spState K) := by
  refine T.f_state.ok sc_state (fun vs H Q E h => ?_) (fun cdv A outer s H vs Q E hgu hr h => ⟨_, (pss_cons (ps_expr (ge_call (ok_need_row T) hgu (hr.mono (by decide)) rfl T.g_need_row T.k_need_row T.b_need_row .nil (fun _ => pass_takes (takes_of rfl rfl rfl rfl)) (pa_cons (pv 0) pa_nil)))
 (pss_cons (ps_expr (ge_call (ok_need_year T) hgu (hr.mono (by decide)) rfl T.g_need_year T.k_need_year T.b_need_year .nil (fun _ => pass_takes (takes_of rfl rfl rfl rfl)) (pa_cons (pv 1) pa_nil)))
 (pss_cons (ps_expr (ge_meth (pv 1) T.cl_Year T.m_Year_need_week (ok_Year_need_week T) hgu (hr.mono (by decide)) T.b_Year_need_week .nil (fun _ => pass_takes (takes_of rfl rfl rfl rfl)) (pa_cons (pv 2) pa_nil)))
 (pss_cons (ps_set (i := 3) sc_state.nd rfl (Or.inl rfl) (ge_call (ok_last_in T) hgu (hr.mono (by decide)) rfl T.g_last_in T.k_last_in T.b_last_in .nil (fun _ => pass_takes (takes_of rfl rfl rfl rfl)) (pa_cons (pv 0) (pa_cons (pv 1) pa_nil))))
 (pss_cons (ps_if (PW.pt (pw_or (pt_cmpR op_isU (pv 3) pe_non (nomark _)) (pw_or1 (pt_cmpR op_lt (pv 2) (ge_meth0 (pv 0) T.cl_Row T.m_Row_week (ok_Row_week T) hgu (hr.mono (by decide)) T.b_Row_week .nil (fun _ => pass_takes (takes_of rfl rfl rfl rfl))) (nomark _))))) (pss_one (ps_ret pe_str)) pss_nil)
 (pss_cons (ps_set (i := 4) sc_state.nd rfl (Or.inl rfl) (ge_call (ok_lost_in T) hgu (hr.mono (by decide)) rfl T.g_lost_in T.k_lost_in T.b_lost_in .nil (fun _ => pass_takes (takes_of rfl rfl rfl rfl)) (pa_cons (pv 0) (pa_cons (pv 1) pa_nil))))
 (pss_cons (ps_if (PW.pt (pw_and (pt_cmpR op_isnU (pv 4) pe_non (nomark _)) (pw_and1 (pt_cmpR op_ge (pv 2) (pv 4) (nomark _))))) (pss_one (ps_ret pe_str)) pss_nil)
 (pss_cons (ps_if (pt_cmpR op_gt (pv 2) (pv 3) (nomark _)) (pss_one (ps_ret pe_str)) pss_nil)
 (pss_cons (ps_set (i := 5) sc_state.nd rfl (Or.inl rfl) (ge_call (ok_ripe_in T) hgu (hr.mono (by decide)) rfl T.g_ripe_in T.k_ripe_in T.b_ripe_in .nil (fun _ => pass_takes (takes_of rfl rfl rfl rfl)) (pa_cons (pv 0) (pa_cons (pv 1) pa_nil))))
 (pss_one (ps_ret (pe_ifExp (PW.pt (pw_and (pt_cmpR op_isnU (pv 5) pe_non (nomark _)) (pw_and1 (pt_cmpR op_ge (pv 2) (pv 5) (nomark _))))) pe_str pe_str)))))))))))), ?_⟩)
  · obtain ⟨a, y, k, r, f, n, R, D, rfl, _⟩ := h
    rfl
  · obtain ⟨a, y, k, r, f, n, R, D, rfl, hI, ir, yr, k0, k1, go⟩ := h
    obtain ⟨nl, td, dy, ey⟩ := yr.ins
    obtain ⟨_, dx, sa, ea, _⟩ := id ir
    wtm_at "go"
    wtm_at "sh"
    refine ⟨a, r, R, D, rfl, hI, ir, ?_⟩
    wtm_at "sh"
    refine need_year_use hI yr ?_
    wtm_at "sh"
    refine need_week_use hI yr (Th.kn (.int k)).m (fun _ H2 hI2 => ?_) (fun h => by rw [whole_ok k0 k1] at h; cases h)
    wtm_at "sh"
    refine ripe_use hI2 ir yr (fun H3 D3 hI3 x3 => ?_)
    have ea3 := x3 _ _ ea
    have g := fun H' D' h x => go H' D' h (x3.trans x)
    unfold Rw'.word wordO at g
    cases el : r.last f n with
    | none =>
      have g' := g _ _ hI3 (Ex.refl _)
      rw [show lastO f n r.w r.s.n r.s.k = none from el] at g'
      dsimp only [oV]
      wtm_at "sh"
      exact g'
    | some l =>
      rw [show lastO f n r.w r.s.n r.s.k = some l from el] at g
      dsimp only [oV] at g ⊢
      wtm_at "sh"
      refine rint_use hI3 (ir.mono x3) ?_
      wtm_at "sh"
      by_cases h1 : k < r.w
      · rw [if_pos h1] at g
        rw [decide_eq_true h1]
        wtm_at "sh"
        exact g _ _ hI3 (Ex.refl _)
      rw [if_neg h1] at g
      rw [decide_eq_false h1]
      wtm_at "sh"
      refine ripe_use hI3 (ir.mono x3) (yr.mono x3) (fun H4 D4 hI4 x4 => ?_)
      have rest : ∀ c4 : V, leO (lostO f n r.w r.s.n r.s.k r.s.b) k = false → (∀ H' D', HI H' R D' → Ex D3 D' → Q (.str (if l < k then Str.ofString "over" else if leO (ripeO f n r.w r.s.n) k = true then Str.ofString "ripe" else Str.ofString "grows")) H') := fun _ hl H' D' h x => by
        have g' := g H' D' h x
        rw [if_neg (by rw [hl]; decide)] at g'
        exact g'
      cases eo : r.lost f n with
      | none =>
        have g2 := rest .non (by rw [show lostO f n r.w r.s.n r.s.k r.s.b = none from eo]; rfl)
        dsimp only [oV]
        wtm_at "sh"
        by_cases h2 : l < k
        · rw [if_pos h2] at g2
          rw [decide_eq_true h2]
          wtm_at "sh"
          exact g2 _ _ hI4 x4
        rw [if_neg h2] at g2
        rw [decide_eq_false h2]
        wtm_at "sh"
        refine ripe_use hI4 (ir.mono (x3.trans x4)) (yr.mono (x3.trans x4)) (fun H5 D5 hI5 x5 => ?_)
        have g3 := g2 _ _ hI5 (x4.trans x5)
        cases ep : r.ripe f n with
        | none =>
          rw [show ripeO f n r.w r.s.n = none from ep] at g3
          dsimp only [oV]
          wtm_at "sh"
          exact g3
        | some p =>
          rw [show ripeO f n r.w r.s.n = some p from ep] at g3
          dsimp only [oV]
          wtm_at "sh"
          by_cases h3 : p ≤ k
          · rw [decide_eq_true h3]
            wtm_at "sh"
            rw [if_pos (show leO (some p) k = true from decide_eq_true h3)] at g3
            exact g3
          · rw [decide_eq_false h3]
            wtm_at "sh"
            rw [if_neg (show ¬ leO (some p) k = true from fun z => h3 (of_decide_eq_true z))] at g3
            exact g3
      | some o =>
        dsimp only [oV]
        wtm_at "sh"
        by_cases h1' : o ≤ k
        · rw [decide_eq_true h1']
          wtm_at "sh"
          have g' := g _ _ hI4 x4
          rw [show lostO f n r.w r.s.n r.s.k r.s.b = some o from eo, if_pos (show leO (some o) k = true from decide_eq_true h1')] at g'
          exact g'
        rw [decide_eq_false h1']
        have g2 := rest .non (by rw [show lostO f n r.w r.s.n r.s.k r.s.b = some o from eo]; exact decide_eq_false h1')
        wtm_at "sh"
        by_cases h2 : l < k
        · rw [if_pos h2] at g2
          rw [decide_eq_true h2]
          wtm_at "sh"
          exact g2 _ _ hI4 x4
        rw [if_neg h2] at g2
        rw [decide_eq_false h2]
        wtm_at "sh"
        refine ripe_use hI4 (ir.mono (x3.trans x4)) (yr.mono (x3.trans x4)) (fun H5 D5 hI5 x5 => ?_)
        have g3 := g2 _ _ hI5 (x4.trans x5)
        cases ep : r.ripe f n with
        | none =>
          rw [show ripeO f n r.w r.s.n = none from ep] at g3
          dsimp only [oV]
          wtm_at "sh"
          exact g3
        | some p =>
          rw [show ripeO f n r.w r.s.n = some p from ep] at g3
          dsimp only [oV]
          wtm_at "sh"
          by_cases h3 : p ≤ k
          · rw [decide_eq_true h3]
            wtm_at "sh"
            rw [if_pos (show leO (some p) k = true from decide_eq_true h3)] at g3
            exact g3
          · rw [decide_eq_false h3]
            wtm_at "sh"
            rw [if_neg (show ¬ leO (some p) k = true from fun z => h3 (of_decide_eq_true z))] at g3
            exact g3
theorem state_use {K : PySem.W.Frag} {a y : Addr} {k : Int} {r : Rw'} {f : Wf} {n : Int} {R : Cells} {D H : Hp} {Q : VK} {E : XK} (hI : HI H R D) (i : IsRow K D a r) (yr : YrAt K R D y f n) (k0 : 1 ≤ k) (k1 : k ≤ n) (q : ∀ H' D', HI H' R D' → Ex D D' → Q (.str (r.word f n k)) H') : spState K [.ref a, .ref y, .int k] H Q E := ⟨a, y, k, r, f, n, R, D, rfl, hI, i, yr, k0, k1, q⟩
def wname : Nat → Str
  | 0 => Str.ofString "unsown"
  | 1 => Str.ofString "grows"
  | 2 => Str.ofString "ripe"
  | 3 => Str.ofString "over"
  | _ => Str.ofString "lost"
def wcd (f : Wf) (n s need keeps bears k : Int) : Nat := match lastO f n s need keeps with
  | none => 0
  | some l => if k < s then 0 else if leO (lostO f n s need keeps bears) k = true then 4 else if l < k then 3 else if leO (ripeO f n s need) k = true then 2 else 1
theorem wordO_wcd {f : Wf} {n s need keeps bears k : Int} : wordO f n s need keeps bears k = wname (wcd f n s need keeps bears k) := by
  unfold wordO wcd
  cases lastO f n s need keeps with
  | none => rfl
  | some l =>
    dsimp only
    by_cases h1 : k < s
    · rw [if_pos h1, if_pos h1]; rfl
    rw [if_neg h1, if_neg h1]
    by_cases h2 : leO (lostO f n s need keeps bears) k = true
    · rw [if_pos h2, if_pos h2]; rfl
    rw [if_neg h2, if_neg h2]
    by_cases h3 : l < k
    · rw [if_pos h3, if_pos h3]; rfl
    rw [if_neg h3, if_neg h3]
    by_cases h4 : leO (ripeO f n s need) k = true
    · rw [if_pos h4, if_pos h4]; rfl
    · rw [if_neg h4, if_neg h4]; rfl
theorem fst_nn {p : Int → Bool} {s n : Int} (h : fstW p s n = none) : ∀ j, s ≤ j → j ≤ n → p j = false := fun j a b => by
  unfold fstW at h
  rw [List.find?_eq_none] at h
  have := h j (List.mem_map.mpr ⟨(j - s).toNat, List.mem_range.mpr (by omega), by omega⟩)
  cases q : p j with
  | false => rfl
  | true => exact absurd q this
theorem wcd_lt {f : Wf} {n s need keeps bears k : Int} (h : k < s) : wcd f n s need keeps bears k = 0 := by
  unfold wcd
  cases lastO f n s need keeps with
  | none => rfl
  | some l => dsimp only; rw [if_pos h]
section
variable {f f' : Wf} {n s need keeps bears by_ k : Int}
/-- the other year is the one, so many weeks later -/
def Lat (f f' : Wf) (by_ n : Int) : Prop := ∀ j, 1 ≤ j → j ≤ n → f' (j + by_) = f j
theorem fst_lat {p q : Int → Bool} (h : ∀ j, s ≤ j → j ≤ n → q (j + by_) = p j) : fstW q (s + by_) (n + by_) = (fstW p s n).map (· + by_) := by
  cases e : fstW p s n with
  | none =>
    refine fst_none fun j hj => ?_
    have := fst_nn e (s + (j : Int)) (by omega) (by omega)
    rw [show s + by_ + (j : Int) = s + (j : Int) + by_ by omega, h _ (by omega) (by omega)]
    exact this
  | some x =>
    have hx := fst_some e
    show fstW q (s + by_) (n + by_) = some (x + by_)
    refine fst_eq (by omega) (by omega) (by rw [h x hx.1 hx.2.1]; exact hx.2.2) fun j a b => ?_
    have := fst_min e (j - by_) (by omega) (by omega)
    have h2 := h (j - by_) (by omega) (by omega)
    rw [show j - by_ + by_ = j by omega] at h2
    rw [h2]
    exact this
theorem wpart_lat (h : Lat f f' by_ n) (s1 : 1 ≤ s) : ∀ i : Nat, s + i ≤ n + 1 → wpart f' (s + by_) i = wpart f s i
  | 0, _ => rfl
  | i + 1, hi => by
    rw [wpart_succ, wpart_succ, wpart_lat h s1 i (by omega), show s + by_ + (i : Int) = s + (i : Int) + by_ by omega, h _ (by omega) (by omega)]
theorem wsum_lat (h : Lat f f' by_ n) (s1 : 1 ≤ s) (a : s ≤ k) (b : k ≤ n) : wsum f' (s + by_) (k + by_) = wsum f s k := by
  unfold wsum
  rw [show (k + by_ + 1 - (s + by_)).toNat = (k + 1 - s).toNat by omega]
  exact wpart_lat h s1 _ (by omega)
theorem ripe_lat (h : Lat f f' by_ n) (s1 : 1 ≤ s) : ripeO f' (n + by_) (s + by_) need = (ripeO f n s need).map (· + by_) := by
  unfold ripeO
  exact fst_lat fun j a b => by rw [wsum_lat h s1 a b]
theorem last_lat (h : Lat f f' by_ n) (s1 : 1 ≤ s) : lastO f' (n + by_) (s + by_) need keeps = (lastO f n s need keeps).map (· + by_) := by
  unfold lastO
  rw [ripe_lat h s1]
  by_cases c : n < s
  · rw [if_pos c, if_pos (by omega)]
    rfl
  · rw [if_neg c, if_neg (by omega)]
    cases ripeO f n s need with
    | none => rfl
    | some r =>
      show some (min (n + by_) (r + by_ + keeps - 1)) = some (min n (r + keeps - 1) + by_)
      congr 1
      omega
theorem lost_lat (h : Lat f f' by_ n) (s1 : 1 ≤ s) (k0 : 1 ≤ keeps) : lostO f' (n + by_) (s + by_) need keeps bears = (lostO f n s need keeps bears).map (· + by_) := by
  unfold lostO
  rw [last_lat h s1]
  cases e : lastO f n s need keeps with
  | none => rfl
  | some l =>
    have hl := last_in_year k0 e
    show fstW _ (s + by_) (l + by_) = Option.map _ (fstW _ s l)
    exact fst_lat fun j a b => by rw [h j (by omega) (by omega)]
theorem cut_lat (h : Lat f f' by_ n) (s1 : 1 ≤ s) (k0 : 1 ≤ keeps) : cutO f' (n + by_) (s + by_) need keeps bears = (cutO f n s need keeps bears).map fun p => (p.1 + by_, p.2 + by_) := by
  unfold cutO
  rw [ripe_lat h s1, lost_lat h s1 k0, last_lat h s1]
  cases er : ripeO f n s need with
  | none => rfl
  | some r =>
    have hla : lastO f n s need keeps = some (min n (r + keeps - 1)) := ripe_last er
    cases lostO f n s need keeps bears with
    | none =>
      rw [hla]
      rfl
    | some l =>
      show (if l + by_ ≤ r + by_ then none else some (r + by_, l + by_ - 1)) = Option.map _ (if l ≤ r then none else some (r, l - 1))
      by_cases c : l ≤ r
      · rw [if_pos c, if_pos (by omega)]
        rfl
      · rw [if_neg c, if_neg (by omega)]
        show some _ = some _
        congr 2
        omega
theorem wcd_lat (h : Lat f f' by_ n) (s1 : 1 ≤ s) (k0 : 1 ≤ keeps) : wcd f' (n + by_) (s + by_) need keeps bears (k + by_) = wcd f n s need keeps bears k := by
  unfold wcd
  rw [ripe_lat h s1, lost_lat h s1 k0, last_lat h s1]
  have le : ∀ o : Option Int, leO (o.map (· + by_)) (k + by_) = leO o k := fun o => by
    cases o with
    | none => rfl
    | some x =>
      show decide (x + by_ ≤ k + by_) = decide (x ≤ k)
      rw [Bool.eq_iff_iff, decide_eq_true_iff, decide_eq_true_iff]
      omega
  rw [le, le]
  cases lastO f n s need keeps with
  | none => rfl
  | some l =>
    show (if k + by_ < s + by_ then 0 else if leO (lostO f n s need keeps bears) k = true then 4 else if l + by_ < k + by_ then 3 else if leO (ripeO f n s need) k = true then 2 else 1) = _
    dsimp only
    by_cases c : k < s
    · rw [if_pos c, if_pos (by omega)]
    · rw [if_neg c, if_neg (by omega)]
      by_cases g : leO (lostO f n s need keeps bears) k = true
      · rw [if_pos g, if_pos g]
      rw [if_neg g, if_neg g]
      by_cases d : l < k
      · rw [if_pos d, if_pos (by omega)]
      · rw [if_neg d, if_neg (by omega)]
end
abbrev words12 : List Str := ["to", "of", "w", "a", "needs", "keeps", "bears", "none", "week", "ripe", "stay", "rest"]
theorem words12_nm : ∀ y ∈ words12, Nm y := all_c (nm_of (by decide +kernel)) (all_c (nm_of (by decide +kernel)) (all_c (nm_of (by decide +kernel)) (all_c (nm_of (by decide +kernel)) (all_c (nm_of (by decide +kernel)) (all_c (nm_of (by decide +kernel)) (all_c (nm_of (by decide +kernel)) (all_c (nm_of (by decide +kernel)) (all_c (nm_of (by decide +kernel)) (all_c (nm_of (by decide +kernel)) (all_c (nm_of (by decide +kernel)) (all_c (nm_of (by decide +kernel)) all_n)))))))))))
abbrev ix12 (fi : Int) (i : Nat) : Nat := ((fi + 5 * (0 + (i : Int))) % 12).toNat
abbrev ix26 (fi : Int) (i : Nat) : Nat := ((fi + 7 * (0 + (i : Int))) % 26).toNat
theorem ix12_lt (fi : Int) (i : Nat) : ix12 fi i < 12 := by
  show ((fi + 5 * (0 + (i : Int))) % 12).toNat < 12
  omega
theorem ix26_lt (fi : Int) (i : Nat) : ix26 fi i < 26 := by
  show ((fi + 7 * (0 + (i : Int))) % 26).toNat < 26
  omega
theorem ix12_inj {fi : Int} {i j : Nat} (hi : i < 12) (hj : j < 12) (h : ix12 fi i = ix12 fi j) : i = j := by
  have h2 : ((fi + 5 * (0 + (i : Int))) % 12).toNat = ((fi + 5 * (0 + (j : Int))) % 12).toNat := h
  omega
theorem ix26_inj {fi : Int} {i j : Nat} (hi : i < 12) (hj : j < 12) (h : ix26 fi i = ix26 fi j) : i = j := by
  have h2 : ((fi + 7 * (0 + (i : Int))) % 26).toNat = ((fi + 7 * (0 + (j : Int))) % 26).toNat := h
  omega
abbrev abc26 : List Nat := (Str.ofString "abcdefghijklmnopqrstuvwxyz").cps.toList
def spNames : Sp := fun vs H Q _ => ∃ (b : Addr) (m : Int) (R : Cells) (D : Hp) (x y z : Int) (n : Nat), vs = [.ref b, .int m] ∧ HI H ((b, bx x y z) :: R) D ∧ BoxOk n x y z ∧ n + 100 < 1000000 ∧ 0 ≤ m ∧ m ≤ 100 ∧
  ∀ (p : Addr) (ys : List Str) x' y' z' n' H' D', HI H' ((b, bx x' y' z') :: R) D' → Ex D D' → BoxOk n' x' y' z' → n' ≤ n + 20 → D' p = some (.lst (ys.map V.str)) → (ys.length : Int) = m → (∀ y ∈ ys, Nm y) → (m ≤ 12 → ys.Nodup) → Q (.ref p) H'
set_option maxHeartbeats 2000000 in
theorem ok_l_names {P : Program} {w : World} {K : PySem.W.Frag} {mg : Str → Option Value} {base : Heap} (T : Tx K mg) : FnG P w K mg base 2 (a_l_names K) ["box", "many"] spNames := by
  refine T.f_l_names.ok sc_l_names (fun vs H Q E h => ?_) (fun cdv A outer s H vs Q E hgu hr h => ⟨_, (pss_cons (ps_set (i := 2) sc_l_names.nd rfl (Or.inr rfl) pe_str)
 (pss_cons (ps_set (i := 3) sc_l_names.nd rfl (Or.inl rfl) (ge_call (ok_l_take T) hgu (hr.mono (by decide)) rfl T.g_l_take T.k_l_take T.b_l_take .nil (fun _ => pass_takes (takes_of rfl rfl rfl rfl)) (pa_cons (pv 0) (pa_cons pe_int pa_nil))))
 (pss_cons (ps_set (i := 4) sc_l_names.nd rfl (Or.inr rfl) (ge_call (ok_l_take T) hgu (hr.mono (by decide)) rfl T.g_l_take T.k_l_take T.b_l_take .nil (fun _ => pass_takes (takes_of rfl rfl rfl rfl)) (pa_cons (pv 0) (pa_cons pe_int pa_nil))))
 (pss_cons (ps_set (i := 5) sc_l_names.nd rfl (Or.inr rfl) (pe_m1 PySem.F.slot_str_split PySem.F.type_str_split mt_splitU pe_str pe_str))
 (pss_cons (ps_if (pt_cmpR (op_eqU hr.units) (pv 3) pe_int (nomark _)) (pss_one (ps_ret (pe_lc (own := [("k", 9)]) rfl sc_l_names.nd (pi_range1 rfl T.n_range (pa_cons (pv 1) pa_nil)) (blkOk_by (own := [("k", 9)]) (N := ["box", "many", "letters", "way", "first", "words", "stem", "at", "long", "k"]) (sc := defScope s_l_names) (by decide +kernel)) (fun _ _ _ _ _ => (pg_name (i := 9) sc_l_names.nd rfl (by first | exact Or.inl rfl | exact Or.inr rfl))) (fun _ _ _ _ _ => pts_nil) (fun _ _ _ _ _ => (pe_ix ix_U (pv 5) (pe_op op_mod (pe_op op_addU (pv 4) (pe_op op_mulU pe_int (pv 9))) pe_int) (fun _ _ => rfl)))))) pss_nil)
 (pss_cons (ps_set (i := 6) sc_l_names.nd rfl (Or.inr rfl) (pe_m1 PySem.F.slot_str_join PySem.F.type_str_join mt_joinU pe_str (pe_lc (own := [("k", 9)]) rfl sc_l_names.nd (pi_range1 rfl T.n_range (pa_cons pe_int pa_nil)) (blkOk_by (own := [("k", 9)]) (N := ["box", "many", "letters", "way", "first", "words", "stem", "at", "long", "k"]) (sc := defScope s_l_names) (by decide +kernel)) (fun _ _ _ _ _ => (pg_name (i := 9) sc_l_names.nd rfl (by first | exact Or.inl rfl | exact Or.inr rfl))) (fun _ _ _ _ _ => pts_nil) (fun _ _ _ _ _ => (pe_ix ix_U (pv 2) (ge_call (ok_l_take T) hgu (hr.mono (by decide)) rfl T.g_l_take T.k_l_take T.b_l_take .nil (fun _ => pass_none) (pa_cons (pv 0) (pa_cons pe_int pa_nil))) (fun _ _ => rfl))))))
 (pss_cons (ps_if (PW.pt (pw_and (pt_cmpR (op_eqU hr.units) (pv 3) pe_int (nomark _)) (pw_and1 (pt_cmpR op_lt (pv 1) pe_int (nomark _))))) (pss_one (ps_ret (pe_lc (own := [("k", 9)]) rfl sc_l_names.nd (pi_range1 rfl T.n_range (pa_cons (pv 1) pa_nil)) (blkOk_by (own := [("k", 9)]) (N := ["box", "many", "letters", "way", "first", "words", "stem", "at", "long", "k"]) (sc := defScope s_l_names) (by decide +kernel)) (fun _ _ _ _ _ => (pg_name (i := 9) sc_l_names.nd rfl (by first | exact Or.inl rfl | exact Or.inr rfl))) (fun _ _ _ _ _ => pts_nil) (fun _ _ _ _ _ => (pe_slice sl_U (pe_op op_addU (pe_ix ix_U (pv 2) (pv 4) (fun _ _ => rfl)) (pv 6)) po_none (po_some (pe_op op_addU (pv 9) pe_int))))))) pss_nil)
 (pss_cons (ps_set (i := 7) sc_l_names.nd rfl (Or.inr rfl) (ge_call (ok_l_take T) hgu (hr.mono (by decide)) rfl T.g_l_take T.k_l_take T.b_l_take .nil (fun _ => pass_takes (takes_of rfl rfl rfl rfl)) (pa_cons (pv 0) (pa_cons pe_int pa_nil))))
 (pss_cons (ps_set (i := 8) sc_l_names.nd rfl (Or.inr rfl) (pe_callB (call_maxU rfl) (by rfl) T.n_max boot_max (pa_cons (pv 7) (pa_cons (ge_call (ok_l_take T) hgu (hr.mono (by decide)) rfl T.g_l_take T.k_l_take T.b_l_take .nil (fun _ => pass_takes (takes_of rfl rfl rfl rfl)) (pa_cons (pv 0) (pa_cons pe_int pa_nil))) pa_nil))))
 (pss_one (ps_ret (pe_lc (own := [("k", 9)]) rfl sc_l_names.nd (pi_range1 rfl T.n_range (pa_cons (pv 1) pa_nil)) (blkOk_by (own := [("k", 9)]) (N := ["box", "many", "letters", "way", "first", "words", "stem", "at", "long", "k"]) (sc := defScope s_l_names) (by decide +kernel)) (fun _ _ _ _ _ => (pg_name (i := 9) sc_l_names.nd rfl (by first | exact Or.inl rfl | exact Or.inr rfl))) (fun _ _ _ _ _ => pts_nil) (fun _ _ _ _ _ => (pe_op op_addU (pe_op op_addU (pe_slice sl_U (pv 6) po_none (po_some (pv 7))) (pe_ix ix_U (pv 2) (pe_op op_mod (pe_op op_addU (pv 4) (pe_op op_mulU pe_int (pv 9))) pe_int) (fun _ _ => rfl))) (pe_slice sl_U (pv 6) (po_some (pv 7)) (po_some (pv 8))))))))))))))))), ?_⟩)
  · obtain ⟨b, m, R, D, x, y, z, n, rfl, _⟩ := h
    rfl
  · obtain ⟨b, m, R, D, x, y, z, n, rfl, hI, hb, hn, m0, m1, go⟩ := h
    have labc : LP Abc (Str.ofString "abcdefghijklmnopqrstuvwxyz") := fun c hc => hc
    wtm_at "go"
    wtm_at "se"
    have hsp : Txt.split (Str.ofString "to of w a needs keeps bears none week ripe stay rest") (Str.ofString " ") = words12 := by decide +kernel
    refine RSplit.mk rfl (Nat.le_of_ble_eq_true rfl) ?_
    rw [hsp]
    wtm_at "se"
    rename_i way x1 y1 z1 H1 hI1 bo1 w0 w1 fi x2 y2 z2 H2 hI2 bo2 f0 f1 pw H3 D3 hI3 x3 ew
    refine if_dec (fun h => ?_) (fun h => ?_)
    · wtm_at "se"
      refine lc_rng (fun j acc R' D' => ∃ ys : List Str, R' = (b, bx x2 y2 z2) :: R ∧ D' = D3 ∧ acc = ys.map V.str ∧ ys.length = j ∧ (∀ y ∈ ys, Nm y) ∧ ∀ (i : Nat) y, ys[i]? = some y → some y = words12[ix12 fi i]?) (by wtm_at "hi") ⟨[], rfl, rfl, rfl, rfl, all_n, fun i y h => by simp at h⟩ (fun L j acc R' D' H' hj hI' p hl => ?_) (fun L acc R' D' H' hI' p hl => ?_)
      · obtain ⟨zs, rfl, rfl, rfl, hlen2, hz, hk⟩ := p
        wtm_at "se"
        refine RIx.strI (ys := words12) (by wtm_at "hp") (by omega) (by show _ % 12 < 12; omega) (fun y hy ey => ?_)
        obtain ⟨q1, q2⟩ := names_snoc hz hlen2 (words12_nm y hy)
        exact le_mk (by wtm_at "hi") ⟨zs ++ [y], rfl, rfl, by rw [List.map_append]; rfl, q2, q1, key_snoc (key := some) (f := fun i => words12[ix12 fi i]?) hk (by rw [hlen2]; exact ey.symm)⟩ hl (by omega)
      · obtain ⟨zs, rfl, rfl, rfl, hlen2, hz, hk⟩ := p
        exact go _ zs _ _ _ _ _ _ hI'.freeze (x3.trans hI'.freezeX) bo2 (by omega) upd_same (by omega) hz fun hm => nodup_at (W := words12) (by decide +kernel) some (ix12 fi) hk (fun i hi => ix12_lt ..) fun i j hi hj e => ix12_inj (by omega) (by omega) e
    · wtm_at "se"
      refine lc_rng (fun j acc R' D' => ∃ (ys : List Str) (x y z : Int) (n' : Nat), R' = (b, bx x y z) :: R ∧ BoxOk n' x y z ∧ n' = n + 2 + j ∧ D' = D3 ∧ acc = ys.map V.str ∧ OnesP Abc ys ∧ ys.length = j) (by wtm_at "hi") ⟨[], _, _, _, _, rfl, bo2, rfl, rfl, rfl, OnesP.nil, rfl⟩ (fun L j acc R' D' H' hj hI' p hl => ?_) (fun L acc R' D' H' hI' p hl => ?_)
      · obtain ⟨ys, x4, y4, z4, n4, rfl, hb1, en, rfl, rfl, ho, hlen⟩ := p
        wtm_at "se"
        refine RIx.sgn (Nat.le_of_ble_eq_true rfl) (by assumption) (by assumption) (fun c hc => ?_)
        exact le_mk (by wtm_at "hi") ⟨ys ++ [⟨#[c]⟩], _, _, _, _, rfl, by assumption, by omega, rfl, by rw [List.map_append]; rfl, ho.snoc labc hc, by rw [List.length_append, hlen]; rfl⟩ hl (by omega)
      · obtain ⟨ys, x4, y4, z4, n4, rfl, hb1, en, rfl, rfl, ho, hlen⟩ := p
        have hI4 := hI'.drop
        have sm := ho.sum
        obtain ⟨jl, js⟩ := onesP_join ho
        refine RJoin.mk (hI'.get (List.mem_cons_self ..)) (by rw [sm, hlen]; decide) ?_
        have jl7 : (Txt.join (Str.ofString "") ys).length = 7 := by rw [jl, hlen]
        generalize Txt.join (Str.ofString "") ys = stem at jl7 js ⊢
        have n9 : n4 ≤ n + 9 := by omega
        wtm_at "se"
        refine if_dec (fun h1 => ?_) (fun h1 => ?_)
        · wtm_at "se"
          refine if_dec (fun h2 => ?_) (fun h2 => ?_)
          · wtm_at "se"
            refine lc_rng (fun j acc R' D' => ∃ ys : List Str, R' = (b, bx x4 y4 z4) :: R ∧ D' = _ ∧ acc = ys.map V.str ∧ ys.length = j ∧ (∀ y ∈ ys, Nm y) ∧ ∀ (i : Nat) y, ys[i]? = some y → y.length = i + 1) hI4 ⟨[], rfl, rfl, rfl, rfl, all_n, fun i y h => by simp at h⟩ (fun L j acc R' D' H' hj hI' p hl => ?_) (fun L acc R' D' H' hI' p hl => ?_)
            · obtain ⟨zs, rfl, rfl, rfl, hlen2, hz, hk⟩ := p
              wtm_at "se"
              refine RIx.sgn (Nat.le_of_ble_eq_true rfl) (by assumption) (by assumption) (fun c hc => ?_)
              have l1 : (⟨#[c]⟩ : Str).length = 1 := rfl
              wtm_at "se"
              have ly1 := len_app (⟨#[c]⟩ : Str) stem
              have py1 := (labc.one hc).app js
              generalize (⟨#[c]⟩ : Str) ++ stem = y1 at ly1 py1 ⊢
              refine RSl.str (small_ok (by omega)) ?_
              have c1 := cut_to_len (z := y1) (k := 0 + (j : Int) + 1) (by omega)
              obtain ⟨q1, q2⟩ := names_snoc hz hlen2 (show Nm (cutS y1 none (some (0 + (j : Int) + 1))) from ⟨by omega, by omega, py1.cut _ _⟩)
              exact le_mk (by wtm_at "hi") ⟨zs ++ [_], rfl, rfl, by rw [List.map_append]; rfl, q2, q1, key_snoc (key := Str.length) (f := fun i => i + 1) hk (by have := c1.2 (by omega); rw [hlen2]; omega)⟩ hl (by omega)
            · obtain ⟨zs, rfl, rfl, rfl, hlen2, hz, hk⟩ := p
              exact go _ zs _ _ _ _ _ _ hI'.freeze (x3.trans hI'.freezeX) hb1 (by omega) upd_same (by omega) hz fun hm => nodup_key Str.length (fun i => i + 1) hk fun i j hi hj e => by omega
          · wtm_at "se"
            rename_i at_ x5 y5 z5 H5 hI5 bo5 at0 at1 lo x6 y6 z6 H6 hI6 bo6 lo0 lo1 lg lg1 lg2 lg3
            refine lc_rng (fun j acc R' D' => ∃ ys : List Str, R' = (b, bx x6 y6 z6) :: R ∧ D' = _ ∧ acc = ys.map V.str ∧ ys.length = j ∧ (∀ y ∈ ys, Nm y) ∧ ∀ (i : Nat) y, ys[i]? = some y → y.cps.toList[at_.toNat]? = abc26[ix26 fi i]?) hI6 ⟨[], rfl, rfl, rfl, rfl, all_n, fun i y h => by simp at h⟩ (fun L j acc R' D' H' hj hI' p hl => ?_) (fun L acc R' D' H' hI' p hl => ?_)
            · obtain ⟨us, rfl, rfl, rfl, hlen3, hu, hk⟩ := p
              wtm_at "se"
              have c1 := cut_to_len (z := stem) at0
              have c2 := cut_mid_len (z := stem) (a := at_) (b := lg) at0 (by omega)
              refine RIx.sgnI (Nat.le_of_ble_eq_true rfl) (by omega) (by show _ % 26 < 26; omega) (fun c hc ec => ?_)
              have l1 : (⟨#[c]⟩ : Str).length = 1 := rfl
              refine RAdd.str (small_ok (by omega)) ?_
              have e1 := len_app (cutS stem none (some at_)) (⟨#[c]⟩ : Str)
              have e2 := len_app (cutS stem none (some at_) ++ (⟨#[c]⟩ : Str)) (cutS stem (some at_) (some lg))
              wtm_at "se"
              obtain ⟨q1, q2⟩ := names_snoc hu hlen3 (show Nm (cutS stem none (some at_) ++ (⟨#[c]⟩ : Str) ++ cutS stem (some at_) (some lg)) from ⟨by omega, by omega, ((js.cut none (some at_)).app (labc.one hc)).app (js.cut _ _)⟩)
              exact le_mk (by wtm_at "hi") ⟨us ++ [_], rfl, rfl, by rw [List.map_append]; rfl, q2, q1, key_snoc (key := fun y : Str => y.cps.toList[at_.toNat]?) (f := fun i => abc26[ix26 fi i]?) hk (by rw [hlen3]; exact (mid_at (by have := c1.2 (by omega); omega)).trans ec.symm)⟩ hl (by omega)
            · obtain ⟨us, rfl, rfl, rfl, hlen3, hu, hk⟩ := p
              exact go _ us _ _ _ _ _ _ hI'.freeze (x3.trans hI'.freezeX) bo6 (by omega) upd_same (by omega) hu fun hm => nodup_at (W := abc26) (by decide +kernel) (fun y : Str => y.cps.toList[at_.toNat]?) (ix26 fi) hk (fun i hi => ix26_lt ..) fun i j hi hj e => ix26_inj (by omega) (by omega) e
        · wtm_at "se"
          rename_i at_ x5 y5 z5 H5 hI5 bo5 at0 at1 lo x6 y6 z6 H6 hI6 bo6 lo0 lo1 lg lg1 lg2 lg3
          refine lc_rng (fun j acc R' D' => ∃ ys : List Str, R' = (b, bx x6 y6 z6) :: R ∧ D' = _ ∧ acc = ys.map V.str ∧ ys.length = j ∧ (∀ y ∈ ys, Nm y) ∧ ∀ (i : Nat) y, ys[i]? = some y → y.cps.toList[at_.toNat]? = abc26[ix26 fi i]?) hI6 ⟨[], rfl, rfl, rfl, rfl, all_n, fun i y h => by simp at h⟩ (fun L j acc R' D' H' hj hI' p hl => ?_) (fun L acc R' D' H' hI' p hl => ?_)
          · obtain ⟨us, rfl, rfl, rfl, hlen3, hu, hk⟩ := p
            wtm_at "se"
            have c1 := cut_to_len (z := stem) at0
            have c2 := cut_mid_len (z := stem) (a := at_) (b := lg) at0 (by omega)
            refine RIx.sgnI (Nat.le_of_ble_eq_true rfl) (by omega) (by show _ % 26 < 26; omega) (fun c hc ec => ?_)
            have l1 : (⟨#[c]⟩ : Str).length = 1 := rfl
            refine RAdd.str (small_ok (by omega)) ?_
            have e1 := len_app (cutS stem none (some at_)) (⟨#[c]⟩ : Str)
            have e2 := len_app (cutS stem none (some at_) ++ (⟨#[c]⟩ : Str)) (cutS stem (some at_) (some lg))
            wtm_at "se"
            obtain ⟨q1, q2⟩ := names_snoc hu hlen3 (show Nm (cutS stem none (some at_) ++ (⟨#[c]⟩ : Str) ++ cutS stem (some at_) (some lg)) from ⟨by omega, by omega, ((js.cut none (some at_)).app (labc.one hc)).app (js.cut _ _)⟩)
            exact le_mk (by wtm_at "hi") ⟨us ++ [_], rfl, rfl, by rw [List.map_append]; rfl, q2, q1, key_snoc (key := fun y : Str => y.cps.toList[at_.toNat]?) (f := fun i => abc26[ix26 fi i]?) hk (by rw [hlen3]; exact (mid_at (by have := c1.2 (by omega); omega)).trans ec.symm)⟩ hl (by omega)
          · obtain ⟨us, rfl, rfl, rfl, hlen3, hu, hk⟩ := p
            exact go _ us _ _ _ _ _ _ hI'.freeze (x3.trans hI'.freezeX) bo6 (by omega) upd_same (by omega) hu fun hm => nodup_at (W := abc26) (by decide +kernel) (fun y : Str => y.cps.toList[at_.toNat]?) (ix26 fi) hk (fun i hi => ix26_lt ..) fun i j hi hj e => ix26_inj (by omega) (by omega) e
def spLWeeks : Sp := fun vs H Q _ => ∃ (b : Addr) (R : Cells) (D : Hp) (x y z : Int) (n : Nat), vs = [.ref b] ∧ HI H ((b, bx x y z) :: R) D ∧ BoxOk n x y z ∧ n + 500 < 1000000 ∧
  ∀ (p : Addr) (xs : List V) (ws : List (Int × Int)) x' y' z' n' H' D', HI H' ((b, bx x' y' z') :: R) D' → Ex D D' → BoxOk n' x' y' z' → n' ≤ n + 400 → D' p = some (.lst xs) → PairsL D' xs ws → 1 ≤ ws.length → ws.length ≤ 52 → (∀ q ∈ ws, WOk q) → Q (.ref p) H'
set_option maxHeartbeats 1000000 in
theorem ok_l_weeks {P : Program} {w : World} {K : PySem.W.Frag} {mg : Str → Option Value} {base : Heap} (T : Tx K mg) : FnG P w K mg base 2 (a_l_weeks K) ["box"] spLWeeks := by
  refine T.f_l_weeks.ok sc_l_weeks (fun vs H Q E h => ?_) (fun cdv A outer s H vs Q E hgu hr h => ⟨_, (pss_cons (ps_set (i := 1) sc_l_weeks.nd rfl (Or.inl rfl) (pe_ix ix_U (pe_lst (pa_cons pe_int (pa_cons pe_int (pa_cons (pe_op op_addU pe_int (ge_call (ok_l_take T) hgu (hr.mono (by decide)) rfl T.g_l_take T.k_l_take T.b_l_take .nil (fun _ => pass_takes (takes_of rfl rfl rfl rfl)) (pa_cons (pv 0) (pa_cons pe_int pa_nil)))) (pa_cons (pe_op op_addU pe_int (ge_call (ok_l_take T) hgu (hr.mono (by decide)) rfl T.g_l_take T.k_l_take T.b_l_take .nil (fun _ => pass_takes (takes_of rfl rfl rfl rfl)) (pa_cons (pv 0) (pa_cons pe_int pa_nil)))) pa_nil))))) (ge_call (ok_l_take T) hgu (hr.mono (by decide)) rfl T.g_l_take T.k_l_take T.b_l_take .nil (fun _ => pass_takes (takes_of rfl rfl rfl rfl)) (pa_cons (pv 0) (pa_cons pe_int pa_nil))) (fun _ _ => rfl)))
 (pss_cons (ps_set (i := 2) sc_l_weeks.nd rfl (Or.inl rfl) (pe_ix ix_U (pe_lst (pa_cons pe_int (pa_cons pe_int (pa_cons pe_int (pa_cons pe_int pa_nil))))) (ge_call (ok_l_take T) hgu (hr.mono (by decide)) rfl T.g_l_take T.k_l_take T.b_l_take .nil (fun _ => pass_takes (takes_of rfl rfl rfl rfl)) (pa_cons (pv 0) (pa_cons pe_int pa_nil))) (fun _ _ => rfl)))
 (pss_cons (ps_set (i := 3) sc_l_weeks.nd rfl (Or.inl rfl) (pe_op op_addU pe_int (ge_call (ok_l_take T) hgu (hr.mono (by decide)) rfl T.g_l_take T.k_l_take T.b_l_take .nil (fun _ => pass_takes (takes_of rfl rfl rfl rfl)) (pa_cons (pv 0) (pa_cons pe_int pa_nil)))))
 (pss_cons (ps_set (i := 4) sc_l_weeks.nd rfl (Or.inl rfl) (pe_lstM pa_nil))
 (pss_cons (ps_for (passes_of rfl) rfl (pi_range1 rfl T.n_range (pa_cons (pv 1) pa_nil)) (pg_name (i := 5) sc_l_weeks.nd rfl (Or.inl rfl)) (pss_cons (ps_set (i := 6) sc_l_weeks.nd rfl (Or.inl rfl) (pe_ix ix_U (pe_lst (pa_cons pe_int (pa_cons (pe_op op_sub (ge_call (ok_l_take T) hgu (hr.mono (by decide)) rfl T.g_l_take T.k_l_take T.b_l_take .nil (fun _ => pass_takes (takes_of rfl rfl rfl rfl)) (pa_cons (pv 0) (pa_cons pe_int pa_nil))) pe_int) (pa_cons (pe_op op_sub (ge_call (ok_l_take T) hgu (hr.mono (by decide)) rfl T.g_l_take T.k_l_take T.b_l_take .nil (fun _ => pass_takes (takes_of rfl rfl rfl rfl)) (pa_cons (pv 0) (pa_cons pe_int pa_nil))) pe_int) pa_nil)))) (ge_call (ok_l_take T) hgu (hr.mono (by decide)) rfl T.g_l_take T.k_l_take T.b_l_take .nil (fun _ => pass_takes (takes_of rfl rfl rfl rfl)) (pa_cons (pv 0) (pa_cons pe_int pa_nil))) (fun _ _ => rfl)))
 (pss_one (ps_expr (pe_bm PySem.F.plainAttrs_list PySem.F.slot_list_append PySem.F.type_list_append mt_append (pv 4) (pa_cons (pe_tup (pa_cons (ge_call (ok_l_take T) hgu (hr.mono (by decide)) rfl T.g_l_take T.k_l_take T.b_l_take .nil (fun _ => pass_takes (takes_of rfl rfl rfl rfl)) (pa_cons (pv 0) (pa_cons (pv 2) pa_nil))) (pa_cons (pe_ifExp (pt_cmpR (op_eqU hr.units) (ge_call (ok_l_take T) hgu (hr.mono (by decide)) rfl T.g_l_take T.k_l_take T.b_l_take .nil (fun _ => pass_takes (takes_of rfl rfl rfl rfl)) (pa_cons (pv 0) (pa_cons (pv 3) pa_nil))) pe_int (nomark _)) (pv 6) pe_int) pa_nil))) pa_nil))))))
 (pss_one (ps_ret (pv 4)))))))), ?_⟩)
  · obtain ⟨b, R, D, x, y, z, n, rfl, _⟩ := h
    rfl
  · obtain ⟨b, R, D, x, y, z, n, rfl, hI, hb, hn, go⟩ := h
    wtm_at "go"
    wtm_at "sg"
    refine RIx.pickI (lo := 1) (hi := 52) (by wtm_at "hp") (all_c ⟨_, rfl, by omega, by omega⟩ (all_c ⟨_, rfl, by omega, by omega⟩ (all_c ⟨_, rfl, by omega, by omega⟩ (all_c ⟨_, rfl, by omega, by omega⟩ all_n)))) (by assumption) (by assumption) (fun many a0 a1 => ?_)
    wtm_at "sg"
    refine RIx.pickI (lo := 1) (hi := 401) (by wtm_at "hp") (all_c ⟨_, rfl, by omega, by omega⟩ (all_c ⟨_, rfl, by omega, by omega⟩ (all_c ⟨_, rfl, by omega, by omega⟩ (all_c ⟨_, rfl, by omega, by omega⟩ all_n)))) (by assumption) (by assumption) (fun most b0 b1 => ?_)
    wtm_at "sg"
    rename_i od x1 y1 z1 H1 hI1 bo1 od0 od1 fd H2 hI2
    have xD := show Ex D _ from (by wtm_at "ex" : Ex D _)
    refine for_rng (fun i σ R' D' => ∃ (xs : List V) (ws : List (Int × Int)) (v5 v6 : Option V) (x y z : Int) (n' : Nat), σ = [some (.ref b), some (.int many), some (.int most), some (.int (1 + od)), some (.ref fd), v5, v6] ∧ R' = (fd, .lst xs) :: (b, bx x y z) :: R ∧ BoxOk n' x y z ∧ n' ≤ n + 5 + 5 * i ∧ Ex D D' ∧ PairsL D' xs ws ∧ ws.length = i ∧ ∀ q ∈ ws, WOk q) hI2
      ⟨[], [], _, _, _, _, _, _, rfl, rfl, bo1, by omega, by wtm_at "ex", .nil, rfl, all_n⟩ (fun i σ R' D' H' hi hI' q => ?_) (fun σ R' D' H' hI' q => ?_)
    · obtain ⟨xs, ws, v5, v6, x3, y3, z3, n3, rfl, rfl, bo3, hn3, ex3, pl, hwl, wo⟩ := q
      have hxl := pl.length
      wtm_at "sg"
      refine RIx.pickI (lo := -60) (hi := 60) (by wtm_at "hp") (all_c ⟨_, rfl, by omega, by omega⟩ (all_c ⟨_, rfl, by omega, by omega⟩ (all_c ⟨_, rfl, by omega, by omega⟩ all_n))) (by assumption) (by assumption) (fun cc c0 c1 => ?_)
      wtm_at "sg"
      rename_i wm x4 y4 z4 H4 hI4 bo4 wm0 wm1 rr x5 y5 z5 H5 hI5 bo5 rr0 rr1
      by_cases hr : rr = 0
      · rw [decide_eq_true hr]
        wtm_at "sg"
        rename_i pp H6 D6 hI6 x6 e6 H7 hI7
        exact ⟨_, _, hI7, xs ++ [.ref pp], ws ++ [(wm, cc)], _, _, _, _, _, _, rfl, rfl, bo5, by omega, by wtm_at "ex", (pl.mono (by wtm_at "ex")).snoc ⟨pp, rfl, e6⟩, by rw [List.length_append, hwl]; rfl, fun q hq => by
          rcases List.mem_append.mp hq with h | h
          · exact wo q h
          · rw [List.mem_singleton.mp h]; exact ⟨wm0, by show wm ≤ 400; omega, c0, c1⟩⟩
      · rw [decide_eq_false hr]
        wtm_at "sg"
        rename_i pp H6 D6 hI6 x6 e6 H7 hI7
        exact ⟨_, _, hI7, xs ++ [.ref pp], ws ++ [(wm, 60)], _, _, _, _, _, _, rfl, rfl, bo5, by omega, by wtm_at "ex", (pl.mono (by wtm_at "ex")).snoc ⟨pp, rfl, e6⟩, by rw [List.length_append, hwl]; rfl, fun q hq => by
          rcases List.mem_append.mp hq with h | h
          · exact wo q h
          · rw [List.mem_singleton.mp h]; exact ⟨wm0, by show wm ≤ 400; omega, by show (-60 : Int) ≤ 60; decide, by show (60 : Int) ≤ 60; decide⟩⟩
    · obtain ⟨xs, ws, v5, v6, x3, y3, z3, n3, rfl, rfl, bo3, hn3, ex3, pl, hwl, wo⟩ := q
      wtm_at "sg"
      obtain ⟨DF, hF, xF, eF⟩ := hI'.fr1
      exact go fd xs ws _ _ _ _ _ _ hF (ex3.trans xF) bo3 (by omega) eF (pl.mono xF) (by omega) (by omega) wo
def FW (ws : List (Int × Int)) : Wf := fun k => ws.getD (k - 1).toNat (0, 0)
theorem fw_get {ws : List (Int × Int)} {k : Int} {p : Int × Int} (h : ws[(k - 1).toNat]? = some p) : FW ws k = p := by
  unfold FW
  rw [List.getD_eq_getElem?_getD, h]
  rfl
theorem cutV_mid {xs : List V} {a b : Nat} (h : a ≤ b) : cutV xs (some (a : Int)) (some (b : Int)) = (xs.drop a).take (b - a) := by
  unfold cutV
  simp only [sIx_le']
  by_cases hb : b ≤ xs.length
  · rw [Nat.min_eq_left hb, Nat.min_eq_left (by omega)]
  · by_cases ha : a ≤ xs.length
    · rw [Nat.min_eq_right (by omega : xs.length ≤ b), Nat.min_eq_left ha]
      rw [List.take_of_length_le (by rw [List.length_drop]; omega), List.take_of_length_le (by rw [List.length_drop]; omega)]
    · rw [Nat.min_eq_right (by omega : xs.length ≤ b), Nat.min_eq_right (by omega : xs.length ≤ a), List.drop_of_length_le (by omega), List.drop_of_length_le (by omega)]
      simp
theorem wpart_list {ws : List (Int × Int)} {s : Nat} (hs : 1 ≤ s) : ∀ i : Nat, s - 1 + i ≤ ws.length → (((ws.drop (s - 1)).take i).map (·.1)).sum = wpart (FW ws) (s : Int) i
  | 0, _ => rfl
  | i + 1, h => by
    have ih := wpart_list (ws := ws) hs i (by omega)
    have hlt : s - 1 + i < ws.length := by omega
    have e : (ws.drop (s - 1))[i]? = some (ws[s - 1 + i]'hlt) := by rw [List.getElem?_drop, List.getElem?_eq_getElem hlt]
    rw [take_more e, List.map_append, List.sum_append, ih, wpart_succ]
    have e2 : FW ws ((s : Int) + (i : Int)) = (ws[s - 1 + i]'hlt) := fw_get (by
      rw [show (((s : Int) + (i : Int)) - 1).toNat = s - 1 + i by omega, List.getElem?_eq_getElem hlt])
    rw [e2]
    simp
def RowT (D : Hp) (p : Addr) (need keeps bears start : Int) : Prop := D p = some (.tup [.int need, .int keeps, .int bears, .int start])
def spLRipe (g : Wf → Int → Int → Int → Int → Int → Option Int) : Sp := fun vs H Q _ => ∃ (rt wl : Addr) (need keeps bears start : Int) (xs : List V) (ws : List (Int × Int)) (R : Cells) (D : Hp), vs = [.ref rt, .ref wl] ∧ HI H R D ∧ RowT D rt need keeps bears start ∧ D wl = some (.lst xs) ∧ PairsL D xs ws ∧ ws.length ≤ 52 ∧ 1 ≤ start ∧ start ≤ 52 ∧ 1 ≤ keeps ∧ keeps ≤ 12 ∧
  ∀ H' D', HI H' R D' → Ex D D' → Q (oV (g (FW ws) ws.length start need keeps bears)) H'
theorem lripe_use {g : Wf → Int → Int → Int → Int → Int → Option Int} {rt wl : Addr} {need keeps bears start : Int} {xs : List V} {ws : List (Int × Int)} {R : Cells} {D H : Hp} {Q : VK} {E : XK} (hI : HI H R D) (er : RowT D rt need keeps bears start) (ew : D wl = some (.lst xs)) (pl : PairsL D xs ws) (l : ws.length ≤ 52) (s0 : 1 ≤ start) (s1 : start ≤ 52) (k0 : 1 ≤ keeps) (k1 : keeps ≤ 12)
    (q : ∀ H' D', HI H' R D' → Ex D D' → Q (oV (g (FW ws) ws.length start need keeps bears)) H') : spLRipe g [.ref rt, .ref wl] H Q E := ⟨rt, wl, need, keeps, bears, start, xs, ws, R, D, rfl, hI, er, ew, pl, l, s0, s1, k0, k1, q⟩
set_option maxHeartbeats 1000000 in
theorem ok_l_ripe {P : Program} {w : World} {K : PySem.W.Frag} {mg : Str → Option Value} {base : Heap} (T : Tx K mg) : FnG P w K mg base 1 (a_l_ripe K) ["row", "weeks"] (spLRipe fun f n s need _ _ => ripeO f n s need) := by
  refine T.f_l_ripe.ok sc_l_ripe (fun vs H Q E h => ?_) (fun cdv A outer s H vs Q E hgu hr h => ⟨_, (pss_cons (ps_asg (pv 0) (pg_tup (by rfl) (pgs_cons (pg_name (i := 2) sc_l_ripe.nd rfl (Or.inl rfl)) (pgs_cons (pg_name (i := 3) sc_l_ripe.nd rfl (Or.inl rfl)) (pgs_cons (pg_name (i := 4) sc_l_ripe.nd rfl (Or.inl rfl)) (pgs_cons (pg_name (i := 5) sc_l_ripe.nd rfl (Or.inl rfl)) pgs_nil))))))
 (pss_cons (ps_for (passes_of rfl) rfl (pi_range2 (by rfl) T.n_range (pa_cons (pv 5) (pa_cons (pe_op op_addU (pe_callB (call_lenU) (by rfl) T.n_len boot_len (pa_cons (pv 1) pa_nil)) pe_int) pa_nil))) (pg_name (i := 6) sc_l_ripe.nd rfl (Or.inl rfl)) (pss_one (ps_if (pt_cmpR op_ge (pe_callB (call_sumU rfl) (by rfl) T.n_sum boot_sum (pa_cons (pe_lc (own := [("pair", 7)]) rfl sc_l_ripe.nd (pi_list (pe_slice sl_U (pv 1) (po_some (pe_op op_sub (pv 5) pe_int)) (po_some (pv 6)))) (blkOk_by (own := [("pair", 7)]) (N := ["row", "weeks", "needs", "keeps", "bears", "start", "week", "pair"]) (sc := defScope s_l_ripe) (by decide +kernel)) (fun _ _ _ _ _ => (pg_name (i := 7) sc_l_ripe.nd rfl (by first | exact Or.inl rfl | exact Or.inr rfl))) (fun _ _ _ _ _ => pts_nil) (fun _ _ _ _ _ => (pe_ix ix_U (pv 7) pe_int (fun _ _ => rfl)))) pa_nil)) (pv 2) (nomark _)) (pss_one (ps_ret (pv 6))) pss_nil)))
 (pss_one (ps_ret pe_non)))), ?_⟩)
  · obtain ⟨rt, wl, need, keeps, bears, start, xs, ws, R, D, rfl, _⟩ := h
    rfl
  · obtain ⟨rt, wl, need, keeps, bears, start, xs, ws, R, D, rfl, hI, er, ew, pl, wl52, s0, s1, k0, k1, go⟩ := h
    unfold RowT at er
    have hxl := pl.length
    obtain ⟨sn, rfl⟩ := Int.eq_ofNat_of_zero_le (show 0 ≤ start by omega)
    wtm_at "go"
    wtm_at "sg"
    refine for_rng (fun i σ R' D' => ∃ v6 v7, σ = [some (.ref rt), some (.ref wl), some (.int need), some (.int keeps), some (.int bears), some (.int sn), v6, v7] ∧ R' = R ∧ Ex D D' ∧ ∀ j : Nat, j < i → decide (need ≤ wsum (FW ws) sn ((sn : Int) + (j : Int))) = false) hI ⟨_, _, rfl, rfl, Ex.refl _, fun j hj => absurd hj (Nat.not_lt_zero j)⟩ (fun i σ R' D' H' hi hI' q => ?_) (fun σ R' D' H' hI' q => ?_)
    · obtain ⟨v6, v7, rfl, rfl, ex, hno⟩ := q
      have hi2 : sn - 1 + (i + 1) ≤ ws.length := by omega
      wtm_at "sg"
      refine RSl.lst (hI'.dat (ex _ _ ew)) ?_
      rw [show ((sn : Int) - 1) = ((sn - 1 : Nat) : Int) by omega, show ((sn : Int) + (i : Int)) = ((sn + i : Nat) : Int) by omega, cutV_mid (by omega), show sn + i - (sn - 1) = i + 1 by omega]
      wtm_at "sg"
      rename_i ps H1 D1 hI1 x1 ep
      have pl1 : PairsL D1 ((xs.drop (sn - 1)).take (i + 1)) ((ws.drop (sn - 1)).take (i + 1)) := ((pl.drop _).take _).mono (ex.trans x1)
      generalize hcs : (xs.drop (sn - 1)).take (i + 1) = cs at ep pl1
      generalize hds : (ws.drop (sn - 1)).take (i + 1) = ds at pl1
      have hcl := pl1.length
      have hdl : ds.length ≤ 52 := by rw [← hds, List.length_take, List.length_drop]; omega
      refine lc_lst (xs := cs) (fun m acc R3 D3 => R3 = R' ∧ D3 = D1 ∧ acc = ((ds.take m).map (·.1)).map V.int) hI1 ⟨rfl, rfl, rfl⟩ (fun m acc R3 D3 q => ?_) (fun L m acc v R3 D3 H3 hv hI3 q hl2 => ?_) (fun L acc R3 D3 H3 hI3 q hl2 => ?_)
      · obtain ⟨rfl, rfl, rfl⟩ := q
        exact ep
      · obtain ⟨rfl, rfl, rfl⟩ := q
        obtain ⟨pp, e1, ⟨q, rfl, eq⟩⟩ := pl1.getV hv
        have hm : m < cs.length := (List.getElem?_eq_some_iff.mp hv).1
        wtm_at "sg"
        refine le_mk hI3 ⟨rfl, rfl, ?_⟩ hl2 (by omega)
        rw [take_more e1, List.map_append, List.map_append]
        rfl
      · obtain ⟨rfl, rfl, rfl⟩ := q
        rw [hcl, List.take_of_length_le (Nat.le_refl _)] at hI3
        refine RSum.mk (ns := ds.map (·.1)) (hI3.get (List.mem_cons_self ..)) ?_
        have hI4 := hI3.drop
        have es : (ds.map (·.1)).sum = wsum (FW ws) sn ((sn : Int) + (i : Int)) := by
          rw [← hds, wsum_at]
          exact wpart_list (by omega) (i + 1) hi2
        rw [es]
        wtm_at "sg"
        by_cases hd : need ≤ wsum (FW ws) sn ((sn : Int) + (i : Int))
        · rw [decide_eq_true hd]
          wtm_at "sg"
          have e : ripeO (FW ws) ws.length sn need = some ((sn : Int) + (i : Int)) := fst_hit (by omega) (decide_eq_true hd) hno
          have g := go _ _ hI4 (ex.trans x1)
          dsimp only at g
          rw [e] at g
          exact g
        · rw [decide_eq_false hd]
          wtm_at "sg"
          refine ⟨_, _, hI4, _, _, rfl, rfl, ex.trans x1, fun j hj => ?_⟩
          by_cases e : j = i
          · rw [e]
            exact decide_eq_false hd
          · exact hno j (by omega)
    · obtain ⟨v6, v7, rfl, rfl, ex, hno⟩ := q
      wtm_at "sg"
      have e : ripeO (FW ws) ws.length sn need = none := fst_none (fun j hj => hno j (by omega))
      have g := go _ _ hI' ex
      dsimp only at g
      rw [e] at g
      exact g
set_option maxHeartbeats 1000000 in
theorem ok_l_last {P : Program} {w : World} {K : PySem.W.Frag} {mg : Str → Option Value} {base : Heap} (T : Tx K mg) : FnG P w K mg base 2 (a_l_last K) ["row", "weeks"] (spLRipe fun f n s need keeps _ => lastO f n s need keeps) := by
  refine T.f_l_last.ok sc_l_last (fun vs H Q E h => ?_) (fun cdv A outer s H vs Q E hgu hr h => ⟨_, (pss_cons (ps_if (pt_cmpR op_gt (pe_ix ix_U (pv 0) pe_int (fun _ _ => rfl)) (pe_callB (call_lenU) (by rfl) T.n_len boot_len (pa_cons (pv 1) pa_nil)) (nomark _)) (pss_one (ps_ret pe_non)) pss_nil)
 (pss_cons (ps_set (i := 2) sc_l_last.nd rfl (Or.inl rfl) (ge_call (ok_l_ripe T) hgu (hr.mono (by decide)) rfl T.g_l_ripe T.k_l_ripe T.b_l_ripe .nil (fun _ => pass_takes (takes_of rfl rfl rfl rfl)) (pa_cons (pv 0) (pa_cons (pv 1) pa_nil))))
 (pss_one (ps_ret (pe_ifExp (pt_cmpR op_isU (pv 2) pe_non (nomark _)) (pe_callB (call_lenU) (by rfl) T.n_len boot_len (pa_cons (pv 1) pa_nil)) (pe_callB (call_minU rfl) (by rfl) T.n_min boot_min (pa_cons (pe_callB (call_lenU) (by rfl) T.n_len boot_len (pa_cons (pv 1) pa_nil)) (pa_cons (pe_op op_sub (pe_op op_addU (pv 2) (pe_ix ix_U (pv 0) pe_int (fun _ _ => rfl))) pe_int) pa_nil)))))))), ?_⟩)
  · obtain ⟨rt, wl, need, keeps, bears, start, xs, ws, R, D, rfl, _⟩ := h
    rfl
  · obtain ⟨rt, wl, need, keeps, bears, start, xs, ws, R, D, rfl, hI, er, ew, pl, wl52, s0, s1, k0, k1, go⟩ := h
    have er' := er
    unfold RowT at er'
    have hxl := pl.length
    wtm_at "go"
    wtm_at "sg"
    rw [hxl]
    by_cases hn : (ws.length : Int) < start
    · rw [decide_eq_true (show start > (ws.length : Int) from hn)]
      wtm_at "sg"
      have g := go _ _ hI (Ex.refl _)
      dsimp only at g
      rw [show lastO (FW ws) ws.length start need keeps = none from if_pos hn] at g
      exact g
    · rw [decide_eq_false (show ¬ start > (ws.length : Int) from hn)]
      wtm_at "sg"
      refine lripe_use hI er ew pl wl52 s0 s1 k0 k1 (fun H1 D1 hI1 x1 => ?_)
      wtm_at "sg"
      have g0 := go _ _ hI1 x1
      dsimp only at g0
      have e0 : lastO (FW ws) ws.length start need keeps = match ripeO (FW ws) ws.length start need with
        | none => some (ws.length : Int)
        | some k => some (min (ws.length : Int) (k + keeps - 1)) := if_neg hn
      cases er2 : ripeO (FW ws) ws.length start need with
      | none =>
        rw [er2] at e0
        rw [e0] at g0
        refine if_yes rfl ?_
        wtm_at "sg"
        rw [hxl]
        exact g0
      | some k =>
        rw [er2] at e0
        rw [e0] at g0
        refine if_no (fun z => by cases z) ?_
        dsimp only [oV]
        wtm_at "sg"
        rename_i mm m1 m2 m3
        have : mm = min (ws.length : Int) (k + keeps - 1) := by omega
        rw [this]
        exact g0
set_option maxHeartbeats 1000000 in
theorem ok_l_lost {P : Program} {w : World} {K : PySem.W.Frag} {mg : Str → Option Value} {base : Heap} (T : Tx K mg) : FnG P w K mg base 3 (a_l_lost K) ["row", "weeks"] (spLRipe lostO) := by
  refine T.f_l_lost.ok sc_l_lost (fun vs H Q E h => ?_) (fun cdv A outer s H vs Q E hgu hr h => ⟨_, (pss_cons (ps_set (i := 2) sc_l_lost.nd rfl (Or.inl rfl) (ge_call (ok_l_last T) hgu (hr.mono (by decide)) rfl T.g_l_last T.k_l_last T.b_l_last .nil (fun _ => pass_takes (takes_of rfl rfl rfl rfl)) (pa_cons (pv 0) (pa_cons (pv 1) pa_nil))))
 (pss_cons (ps_if (pt_cmpR op_isU (pv 2) pe_non (nomark _)) (pss_one (ps_ret pe_non)) pss_nil)
 (pss_cons (ps_setLc (i := 3) (own := [("week", 4)]) rfl sc_l_lost.nd rfl rfl (sw_true rfl rfl rfl (by decide +kernel)) (pi_range2 (by rfl) T.n_range (pa_cons (pe_ix ix_U (pv 0) pe_int (fun _ _ => rfl)) (pa_cons (pe_op op_addU (pv 2) pe_int) pa_nil))) (blkOk_by (own := [("week", 4)]) (N := ["row", "weeks", "last", "some", "week"]) (sc := defScope s_l_lost) (by decide +kernel)) (fun _ _ _ _ _ => (pg_name (i := 4) sc_l_lost.nd rfl (by first | exact Or.inl rfl | exact Or.inr rfl))) (fun _ _ _ _ _ => (pts_one (pt_cmpR op_lt (pe_ix ix_U (pe_ix ix_U (pv 1) (pe_op op_sub (pv 4) pe_int) (fun _ _ => rfl)) pe_int (fun _ _ => rfl)) (pe_ix ix_U (pv 0) pe_int (fun _ _ => rfl)) (nomark _)))) (fun _ _ _ _ _ => (pv 4)))
 (pss_one (ps_ret (pe_ifExp (pt_cmpR (op_neU hr.units) (pv 3) (pe_lst pa_nil) (nomark _)) (pe_ix ix_U (pv 3) pe_int (fun _ _ => rfl)) pe_non)))))), ?_⟩)
  · obtain ⟨rt, wl, need, keeps, bears, start, xs, ws, R, D, rfl, _⟩ := h
    rfl
  · obtain ⟨rt, wl, need, keeps, bears, start, xs, ws, R, D, rfl, hI, er, ew, pl, wl52, s0, s1, k0, k1, go⟩ := h
    have er' := er
    unfold RowT at er'
    have hxl := pl.length
    wtm_at "go"
    wtm_at "sg"
    refine lripe_use hI er ew pl wl52 s0 s1 k0 k1 (fun H1 D1 hI1 x1 => ?_)
    wtm_at "sg"
    cases el : lastO (FW ws) ws.length start need keeps with
    | none =>
      refine if_yes rfl ?_
      wtm_at "sg"
      have g := go _ _ hI1 x1
      rw [show lostO (FW ws) ws.length start need keeps bears = none from by unfold lostO; rw [el]; rfl] at g
      exact g
    | some l =>
      obtain ⟨l0, l1⟩ := last_in_year k0 el
      have hlost : lostO (FW ws) ws.length start need keeps bears = fstW (fun k => decide ((FW ws k).2 < bears)) start l := by unfold lostO; rw [el]; rfl
      refine if_no (fun z => by cases z) ?_
      dsimp only [oV]
      wtm_at "sg"
      let P : Int → Bool := fun k => decide ((FW ws k).2 < bears)
      refine lc_rng (fun i acc R' D' => R' = R ∧ D' = D1 ∧ acc = (((List.range i).map fun (j : Nat) => start + (j : Int)).filter P).map V.int) hI1 ⟨rfl, rfl, rfl⟩ (fun L i acc R' D' H' hi hI' q hl2 => ?_) (fun L acc R' D' H' hI' q hl2 => ?_)
      · obtain ⟨rfl, rfl, rfl⟩ := q
        have hlt : (start + (i : Int) - 1).toNat < ws.length := by omega
        obtain ⟨v, e1, ⟨q, rfl, eq⟩⟩ := (pl.mono x1).get (List.getElem?_eq_getElem hlt)
        have fw : FW ws (start + (i : Int)) = ws[(start + (i : Int) - 1).toNat] := fw_get (List.getElem?_eq_getElem hlt)
        wtm_at "sg"
        refine RIx.l (by wtm_at "hp") ((atI_ofI (by omega)).trans e1) ?_
        wtm_at "sg"
        rw [← fw]
        have step : (((List.range (i + 1)).map fun (j : Nat) => start + (j : Int)).filter P) = (((List.range i).map fun (j : Nat) => start + (j : Int)).filter P) ++ (if P (start + (i : Int)) = true then [start + (i : Int)] else []) := by
          rw [List.range_succ, List.map_append, List.filter_append]
          congr 1
          show List.filter P [start + (i : Int)] = _
          by_cases h : P (start + (i : Int)) = true
          · rw [if_pos h, List.filter_cons_of_pos h, List.filter_nil]
          · rw [if_neg h, List.filter_cons_of_neg h, List.filter_nil]
        by_cases hd : (FW ws (start + (i : Int))).2 < bears
        · rw [decide_eq_true hd]
          wtm_at "sg"
          refine le_mk hI' ⟨rfl, rfl, ?_⟩ hl2 (by omega)
          rw [step, if_pos (decide_eq_true hd), List.map_append]
          rfl
        · rw [decide_eq_false hd]
          wtm_at "sg"
          refine lx_mk hI' ⟨rfl, rfl, ?_⟩ hl2
          rw [step, if_neg (by show ¬ decide _ = true; rw [decide_eq_false hd]; decide), List.append_nil]
      · obtain ⟨rfl, rfl, rfl⟩ := q
        have hh : lostO (FW ws) ws.length start need keeps bears = (((List.range (l + 1 - start).toNat).map fun (j : Nat) => start + (j : Int)).filter P).head? := by
          rw [hlost]
          unfold fstW
          rw [List.head?_filter]
        generalize ((List.range (l + 1 - start).toNat).map fun (j : Nat) => start + (j : Int)).filter P = fs at hI' hh
        have hF := hI'.freeze
        have xF := hI'.freezeX
        have eF : upd D' L (.lst (fs.map V.int)) L = some (.lst (fs.map V.int)) := upd_same
        generalize upd D' L (.lst (fs.map V.int)) = DF at hF xF eF
        wtm_at "sg"
        refine rne_ints_nil (by wtm_at "hp") (by wtm_at "hp") ?_
        wtm_at "sg"
        cases fs with
        | nil =>
          refine iteF ?_
          wtm_at "sg"
          have g := go _ _ (by assumption) (by wtm_at "ex")
          rw [hh] at g
          exact g
        | cons k0 r =>
          refine iteT ?_
          wtm_at "sg"
          have g := go _ _ (by assumption) (by wtm_at "ex")
          rw [hh] at g
          exact RIx.l (by wtm_at "hp") ((atI_ofI (by decide)).trans rfl) g
def spLCut : Sp := fun vs H Q _ => ∃ (rt wl : Addr) (need keeps bears start : Int) (xs : List V) (ws : List (Int × Int)) (R : Cells) (D : Hp), vs = [.ref rt, .ref wl] ∧ HI H R D ∧ RowT D rt need keeps bears start ∧ D wl = some (.lst xs) ∧ PairsL D xs ws ∧ ws.length ≤ 52 ∧ 1 ≤ start ∧ start ≤ 52 ∧ 1 ≤ keeps ∧ keeps ≤ 12 ∧
  ∀ v H' D', HI H' R D' → Ex D D' → CutAt D' v (cutO (FW ws) ws.length start need keeps bears) → Q v H'
set_option maxHeartbeats 1000000 in
theorem ok_l_cut {P : Program} {w : World} {K : PySem.W.Frag} {mg : Str → Option Value} {base : Heap} (T : Tx K mg) : FnG P w K mg base 4 (a_l_cut K) ["row", "weeks"] spLCut := by
  refine T.f_l_cut.ok sc_l_cut (fun vs H Q E h => ?_) (fun cdv A outer s H vs Q E hgu hr h => ⟨_, (pss_cons (ps_par (i := 2) (j := 3) (by rfl) sc_l_cut.nd rfl rfl (by decide) rfl rfl (pa_cons (ge_call (ok_l_ripe T) hgu (hr.mono (by decide)) rfl T.g_l_ripe T.k_l_ripe T.b_l_ripe .nil (fun _ => pass_takes (takes_of rfl rfl rfl rfl)) (pa_cons (pv 0) (pa_cons (pv 1) pa_nil))) (pa_cons (ge_call (ok_l_lost T) hgu (hr.mono (by decide)) rfl T.g_l_lost T.k_l_lost T.b_l_lost .nil (fun _ => pass_takes (takes_of rfl rfl rfl rfl)) (pa_cons (pv 0) (pa_cons (pv 1) pa_nil))) pa_nil)) (by rfl))
 (pss_cons (ps_if (PW.pt (pw_or (pt_cmpR op_isU (pv 2) pe_non (nomark _)) (pw_or1 (PW.pt (pw_and (pt_cmpR op_isnU (pv 3) pe_non (nomark _)) (pw_and1 (pt_cmpR op_le (pv 3) (pv 2) (nomark _)))))))) (pss_one (ps_ret pe_non)) pss_nil)
 (pss_one (ps_ret (pe_tup (pa_cons (pv 2) (pa_cons (pe_ifExp (pt_cmpR op_isU (pv 3) pe_non (nomark _)) (ge_call (ok_l_last T) hgu (hr.mono (by decide)) rfl T.g_l_last T.k_l_last T.b_l_last .nil (fun _ => pass_takes (takes_of rfl rfl rfl rfl)) (pa_cons (pv 0) (pa_cons (pv 1) pa_nil))) (pe_op op_sub (pv 3) pe_int)) pa_nil))))))), ?_⟩)
  · obtain ⟨rt, wl, need, keeps, bears, start, xs, ws, R, D, rfl, _⟩ := h
    rfl
  · obtain ⟨rt, wl, need, keeps, bears, start, xs, ws, R, D, rfl, hI, er, ew, pl, wl52, s0, s1, k0, k1, go⟩ := h
    wtm_at "go"
    wtm_at "sg"
    refine lripe_use hI er ew pl wl52 s0 s1 k0 k1 (fun H1 D1 hI1 x1 => ?_)
    wtm_at "sg"
    refine lripe_use hI1 (x1 _ _ er) (x1 _ _ ew) (pl.mono x1) wl52 s0 s1 k0 k1 (fun H2 D2 hI2 x2 => ?_)
    have x12 := x1.trans x2
    wtm_at "sg"
    have hcut : cutO (FW ws) ws.length start need keeps bears = match ripeO (FW ws) ws.length start need with
      | none => none
      | some k => match lostO (FW ws) ws.length start need keeps bears with
        | none => some (k, (lastO (FW ws) ws.length start need keeps).getD 0)
        | some l => if l ≤ k then none else some (k, l - 1) := rfl
    cases er2 : ripeO (FW ws) ws.length start need with
    | none =>
      rw [er2] at hcut
      refine if_yes rfl ?_
      wtm_at "sg"
      exact go _ _ _ hI2 x12 (by rw [hcut]; rfl)
    | some k =>
      rw [er2] at hcut
      refine if_no (fun z => by cases z) ?_
      dsimp only [oV]
      wtm_at "sg"
      cases el : lostO (FW ws) ws.length start need keeps bears with
      | none =>
        rw [el] at hcut
        refine if_yesN rfl ?_
        dsimp only [oV]
        wtm_at "sg"
        refine lripe_use hI2 (x12 _ _ er) (x12 _ _ ew) (pl.mono x12) wl52 s0 s1 k0 k1 (fun H3 D3 hI3 x3 => ?_)
        have : lastO (FW ws) ws.length start need keeps = some (min (ws.length : Int) (k + keeps - 1)) := ripe_last er2
        rw [this]
        dsimp only [oV]
        wtm_at "sg"
        rename_i p H4 D4 hI4 x4 e4
        exact go _ _ _ hI4 (x12.trans (x3.trans x4)) (by rw [hcut, this]; exact ⟨p, rfl, e4⟩)
      | some l =>
        rw [el] at hcut
        refine if_noN (fun z => by cases z) ?_
        dsimp only [oV]
        wtm_at "sg"
        by_cases hd : l ≤ k
        · rw [decide_eq_true hd]
          wtm_at "sg"
          exact go _ _ _ hI2 x12 (by rw [hcut]; show CutAt _ _ (if l ≤ k then none else _); rw [if_pos hd]; rfl)
        · rw [decide_eq_false hd]
          wtm_at "sg"
          rename_i p H4 D4 hI4 x4 e4
          exact go _ _ _ hI4 (x12.trans x4) (by rw [hcut]; show CutAt _ _ (if l ≤ k then none else _); rw [if_neg hd]; exact ⟨p, rfl, e4⟩)
theorem lcut_use {rt wl : Addr} {need keeps bears start : Int} {xs : List V} {ws : List (Int × Int)} {R : Cells} {D H : Hp} {Q : VK} {E : XK} (hI : HI H R D) (er : RowT D rt need keeps bears start) (ew : D wl = some (.lst xs)) (pl : PairsL D xs ws) (l : ws.length ≤ 52) (s0 : 1 ≤ start) (s1 : start ≤ 52) (k0 : 1 ≤ keeps) (k1 : keeps ≤ 12)
    (q : ∀ v H' D', HI H' R D' → Ex D D' → CutAt D' v (cutO (FW ws) ws.length start need keeps bears) → Q v H') : spLCut [.ref rt, .ref wl] H Q E := ⟨rt, wl, need, keeps, bears, start, xs, ws, R, D, rfl, hI, er, ew, pl, l, s0, s1, k0, k1, q⟩
def pD (p : Int × Int) : PyData := .tuple [.int p.1, .int p.2]
/-- the rows' numbers, as the law keeps them -/
def KeptAt (D : Hp) (pk : Addr) (ks : List (Addr × Rw')) : Prop := D pk = some (.lst (ks.map fun r => .ref r.1)) ∧ (∀ r ∈ ks, D r.1 = some (.tup [.int r.2.s.n, .int r.2.s.k, .int r.2.s.b, .int r.2.w, .int r.2.h]) ∧ r.2.Ok ∧ r.2.s.Ok) ∧ ks.length ≤ 40
theorem KeptAt.mono {D D' : Hp} {pk : Addr} {ks : List (Addr × Rw')} (h : KeptAt D pk ks) (x : Ex D D') : KeptAt D' pk ks := ⟨x _ _ h.1, fun r hr => ⟨x _ _ (h.2.1 r hr).1, (h.2.1 r hr).2⟩, h.2.2⟩
def RowsAt (K : PySem.W.Frag) (D : Hp) (pr pk : Addr) (rs : List (Addr × Addr × Rw')) : Prop := D pr = some (.lst (rs.map fun r => .ref r.1)) ∧ D pk = some (.lst (rs.map fun r => .ref r.2.1)) ∧
  (∀ r ∈ rs, IsRow K D r.1 r.2.2 ∧ D r.2.1 = some (.tup [.int r.2.2.s.n, .int r.2.2.s.k, .int r.2.2.s.b, .int r.2.2.w, .int r.2.2.h])) ∧ rs.length ≤ 40
theorem RowsAt.mono {K : PySem.W.Frag} {D D' : Hp} {pr pk : Addr} {rs : List (Addr × Addr × Rw')} (h : RowsAt K D pr pk rs) (x : Ex D D') : RowsAt K D' pr pk rs := ⟨x _ _ h.1, x _ _ h.2.1, fun r hr => ⟨(h.2.2.1 r hr).1.mono x, x _ _ (h.2.2.1 r hr).2⟩, h.2.2.2⟩
theorem RowsAt.kept {K : PySem.W.Frag} {D : Hp} {pr pk : Addr} {rs : List (Addr × Addr × Rw')} (h : RowsAt K D pr pk rs) : KeptAt D pk (rs.map Prod.snd) := ⟨by rw [h.2.1, List.map_map]; rfl, fun r hr => by
  obtain ⟨x, hx, rfl⟩ := List.mem_map.mp hr
  obtain ⟨ir, e⟩ := h.2.2.1 x hx
  obtain ⟨ok, _, _, _, is⟩ := ir
  exact ⟨e, ok, is.1⟩, by rw [List.length_map]; exact h.2.2.2⟩
theorem lweeks_use {b : Addr} {R : Cells} {D H : Hp} {x y z : Int} {n : Nat} {Q : VK} {E : XK} (hI : HI H ((b, bx x y z) :: R) D) (hb : BoxOk n x y z) (hn : n + 500 < 1000000)
    (q : ∀ (p : Addr) (xs : List V) (ws : List (Int × Int)) x' y' z' n' H' D', HI H' ((b, bx x' y' z') :: R) D' → Ex D D' → BoxOk n' x' y' z' → n' ≤ n + 400 → D' p = some (.lst xs) → PairsL D' xs ws → 1 ≤ ws.length → ws.length ≤ 52 → (∀ q ∈ ws, WOk q) → Q (.ref p) H') : spLWeeks [.ref b] H Q E := ⟨b, R, D, x, y, z, n, rfl, hI, hb, hn, q⟩
/-- the list with the k-th week put anew: as the law writes it -/
def setW (ws : List (Int × Int)) (k : Int) (q : Int × Int) : List (Int × Int) := ws.set (k - 1).toNat q
theorem setW_len {ws : List (Int × Int)} {k : Int} {q : Int × Int} : (setW ws k q).length = ws.length := List.length_set
theorem setW_at {ws : List (Int × Int)} {k j : Int} {q : Int × Int} (k0 : 1 ≤ k) (k1 : k ≤ ws.length) (j0 : 1 ≤ j) : FW (setW ws k q) j = if j = k then q else FW ws j := by
  unfold FW setW
  rw [List.getD_eq_getElem?_getD, List.getD_eq_getElem?_getD, List.getElem?_set]
  by_cases h : j = k
  · rw [if_pos h, h, if_pos rfl, if_pos (by omega)]
    rfl
  · rw [if_neg h, if_neg (by omega)]
theorem PairsL.set {D : Hp} : ∀ {xs : List V} {ns : List (Int × Int)} {i : Nat} {v : V} {p : Int × Int}, PairsL D xs ns → PairAt D v p → PairsL D (xs.set i v) (ns.set i p)
  | [], [], _, _, _, _, _ => .nil
  | _ :: _, _ :: _, 0, _, _, .cons _ t, h => .cons h t
  | _ :: _, _ :: _, _ + 1, _, _, .cons a t, h => .cons a (t.set h)
/-- the law's own year: as it stands and as the list says -/
structure YrW (K : PySem.W.Frag) (D : Hp) (y nl td : Addr) (ns : List (Int × Int)) (kvs : List (Key × V)) (m : Int → Option (Int × Int)) (ws : List (Int × Int)) : Prop where
  iy : IsYr K D y nl td ns
  t : Told D kvs m ns.length
  l : ws.length = ns.length
  f : ∀ k, 1 ≤ k → k ≤ (ns.length : Int) → FW ws k = stand ns m k
theorem YrW.mono {K : PySem.W.Frag} {D D' : Hp} {y nl td : Addr} {ns : List (Int × Int)} {kvs : List (Key × V)} {m : Int → Option (Int × Int)} {ws : List (Int × Int)} (h : YrW K D y nl td ns kvs m ws) (x : Ex D D') : YrW K D' y nl td ns kvs m ws := ⟨h.iy.mono x, h.t.mono x, h.l, h.f⟩
theorem YrW.at {K : PySem.W.Frag} {D : Hp} {y nl td : Addr} {ns : List (Int × Int)} {kvs : List (Key × V)} {m : Int → Option (Int × Int)} {ws : List (Int × Int)} {R : Cells} (h : YrW K D y nl td ns kvs m ws) (hm : ((td, HO.dK kvs) : Addr × HO) ∈ R) : YrAt K R D y (FW ws) ws.length :=
  ⟨nl, td, ns, kvs, m, h.iy, hm, by rw [h.l]; exact h.t, by rw [h.l], fun k a b => h.f k a (by rw [← h.l]; exact b)⟩
theorem YrW.told {K : PySem.W.Frag} {D D' : Hp} {y nl td : Addr} {ns : List (Int × Int)} {kvs kvs' : List (Key × V)} {m : Int → Option (Int × Int)} {ws : List (Int × Int)} {k : Int} {q : Int × Int} (h : YrW K D y nl td ns kvs m ws) (x : Ex D D') (t' : Told D' kvs' (putM m k (some q)) ns.length) (k0 : 1 ≤ k) (k1 : k ≤ ns.length) : YrW K D' y nl td ns kvs' (putM m k (some q)) (setW ws k q) :=
  ⟨h.iy.mono x, t', setW_len.trans h.l, fun j a b => by
    rw [setW_at k0 (by rw [h.l]; exact k1) a, h.f j a b]
    unfold stand putM
    by_cases e : j = k
    · rw [if_pos e, if_pos e]
      rfl
    · rw [if_neg e, if_neg e]⟩
theorem cut_in_year {f : Wf} {n s need keeps bears : Int} {p : Int × Int} (k0 : 1 ≤ keeps) (h : cutO f n s need keeps bears = some p) : s ≤ p.1 ∧ p.1 ≤ n ∧ p.2 ≤ n ∧ p.1 ≤ p.2 := by
  unfold cutO at h
  cases e : ripeO f n s need with
  | none =>
    rw [e] at h
    cases h
  | some r =>
    rw [e] at h
    have a := ripe_in_year e
    cases e2 : lostO f n s need keeps bears with
    | none =>
      rw [e2] at h
      cases h
      rw [ripe_last e]
      exact ⟨a.1, a.2, show min n (r + keeps - 1) ≤ n by omega, show r ≤ min n (r + keeps - 1) by omega⟩
    | some l =>
      rw [e2] at h
      unfold lostO at e2
      rw [ripe_last e] at e2
      have b := fst_some e2
      dsimp only at h
      split at h
      · cases h
      · rename_i hlk
        cases h
        exact ⟨a.1, a.2, show l - 1 ≤ n by omega, show r ≤ l - 1 by omega⟩
theorem inCut_iff {c : Int × Int} {k : Int} : inCut (some c) k = true ↔ c.1 ≤ k ∧ k ≤ c.2 := by
  unfold inCut
  rw [Bool.and_eq_true, decide_eq_true_iff, decide_eq_true_iff]
/-- numbers week by week -/
def wkl (g : Int → Int) (N : Nat) : List V := (List.range N).map fun (i : Nat) => V.int (g ((i : Int) + 1))
theorem wkl_len {g : Int → Int} {N : Nat} : (wkl g N).length = N := by unfold wkl; rw [List.length_map, List.length_range]
theorem wkl_get {g : Int → Int} {N j : Nat} (h : j < N) : (wkl g N)[j]? = some (.int (g ((j : Int) + 1))) := by
  unfold wkl
  rw [List.getElem?_map, List.getElem?_range h]
  rfl
theorem wkl_set {g g' : Int → Int} {N j : Nat} {v : Int} (h : j < N) (h1 : g' ((j : Int) + 1) = v) (h2 : ∀ k : Nat, k < N → k ≠ j → g' ((k : Int) + 1) = g ((k : Int) + 1)) : (wkl g N).set j (.int v) = wkl g' N := by
  refine List.ext_getElem? fun i => ?_
  rw [List.getElem?_set, wkl_len]
  by_cases e : j = i
  · subst e
    rw [if_pos rfl, if_pos h, wkl_get h, h1]
  · rw [if_neg e]
    by_cases hi : i < N
    · rw [wkl_get hi, wkl_get hi, h2 i hi (fun z => e z.symm)]
    · rw [List.getElem?_eq_none (by rw [wkl_len]; omega), List.getElem?_eq_none (by rw [wkl_len]; omega)]
theorem wkl_congr {g g' : Int → Int} {N : Nat} (h : ∀ k : Nat, k < N → g ((k : Int) + 1) = g' ((k : Int) + 1)) : wkl g N = wkl g' N := by
  unfold wkl
  refine List.map_congr_left fun i hi => ?_
  rw [h i (List.mem_range.mp hi)]
theorem wkl_zero {N : Nat} : (List.replicate N [V.int 0]).flatten = wkl (fun _ => 0) N := by
  unfold wkl
  induction N with
  | zero => rfl
  | succ n ih => rw [List.replicate_succ', List.flatten_append, ih, List.range_succ, List.map_append]; rfl
theorem ixN_of {n : Nat} {k : Int} {j : Nat} (h : k = (j : Int)) (hj : j < n) : ixN n k = some j := by
  rw [h]
  unfold ixN
  rw [if_pos (by omega), if_pos (by omega), Int.toNat_natCast]
theorem headsW_snoc {rs : List Rw'} {r : Rw'} {f : Wf} {n k : Int} : headsW (rs ++ [r]) f n k = headsW rs f n k + (if inCut (r.cut f n) k = true then r.h else 0) := by
  unfold headsW
  rw [List.map_append, List.sum_append]
  simp
def spWeekHeads (K : PySem.W.Frag) : Sp := fun vs H Q _ => ∃ (p y : Addr) (rs : List (Addr × Rw')) (f : Wf) (n : Int) (R : Cells) (D : Hp), vs = [.ref p, .ref y] ∧ HI H R D ∧ RsAt K R D p rs ∧ YrAt K R D y f n ∧
  ∀ q H' D', HI H' ((q, .lst (wkl (headsW (rs.map Prod.snd) f n) n.toNat)) :: R) D' → Ex D D' → Q (.ref q) H'
set_option maxHeartbeats 1000000 in
theorem ok_week_heads {P : Program} {w : World} {K : PySem.W.Frag} {mg : Str → Option Value} {base : Heap} (T : Tx K mg) : FnG P w K mg base 10 (a_week_heads K) ["rows", "year"] (spWeekHeads K) := by
  refine T.f_week_heads.ok sc_week_heads (fun vs H Q E h => ?_) (fun cdv A outer s H vs Q E hgu hr h => ⟨_, (pss_cons (ps_expr (ge_call (ok_need_rows T) hgu (hr.mono (by decide)) rfl T.g_need_rows T.k_need_rows T.b_need_rows .nil (fun _ => pass_takes (takes_of rfl rfl rfl rfl)) (pa_cons (pv 0) pa_nil)))
 (pss_cons (ps_expr (ge_call (ok_need_year T) hgu (hr.mono (by decide)) rfl T.g_need_year T.k_need_year T.b_need_year .nil (fun _ => pass_takes (takes_of rfl rfl rfl rfl)) (pa_cons (pv 1) pa_nil)))
 (pss_cons (ps_set (i := 2) sc_week_heads.nd rfl (Or.inl rfl) (pe_op op_mulUM (pe_lst (pa_cons pe_int pa_nil)) (pe_callB (call_lenO T.m_Year_len.at_ T.m_Year_len.fn (ok_Year_len T) T.b_Year_len hgu (hr.mono (by decide))) (by rfl) T.n_len boot_len (pa_cons (pv 1) pa_nil))))
 (pss_cons (ps_for (passes_of rfl) rfl (pi_seq (pv 0)) (pg_name (i := 3) sc_week_heads.nd rfl (Or.inl rfl)) (pss_cons (ps_set (i := 4) sc_week_heads.nd rfl (Or.inl rfl) (ge_call (ok_ready_in T) hgu (hr.mono (by decide)) rfl T.g_ready_in T.k_ready_in T.b_ready_in .nil (fun _ => pass_takes (takes_of rfl rfl rfl rfl)) (pa_cons (pv 3) (pa_cons (pv 1) pa_nil))))
 (pss_one (ps_if (pt_cmpR op_isnU (pv 4) pe_non (nomark _)) (pss_one (ps_for (passes_of rfl) rfl (pi_range2 (by rfl) T.n_range (pa_cons (pe_ix ix_U (pv 4) pe_int (fun _ _ => rfl)) (pa_cons (pe_op op_addU (pe_ix ix_U (pv 4) pe_int (fun _ _ => rfl)) pe_int) pa_nil))) (pg_name (i := 5) sc_week_heads.nd rfl (Or.inl rfl)) (pss_one (ps_augS (pv 2) (pe_op op_sub (pv 5) pe_int) get_list (ge_meth0 (pv 3) T.cl_Row T.m_Row_heads (ok_Row_heads T) hgu (hr.mono (by decide)) T.b_Row_heads .nil (fun _ => pass_takes (takes_of rfl rfl rfl rfl))) ip_add set_list)))) pss_nil))))
 (pss_one (ps_ret (pv 2))))))), ?_⟩)
  · obtain ⟨p, y, rs, f, n, R, D, rfl, _⟩ := h
    rfl
  · obtain ⟨p, y, rs, f, n, R, D, rfl, hI, ra, yr, go⟩ := h
    obtain ⟨nl, td, dy, ey⟩ := yr.ins
    obtain ⟨n1, n52⟩ := yr.nn
    have hl := ra.l
    wtm_at "go"
    wtm_at "sh"
    refine need_rows_use hI ra (fun H1 D1 hI1 x1 => ?_)
    wtm_at "sh"
    refine need_year_use hI1 (yr.mono x1) ?_
    wtm_at "sh"
    rename_i pz H2 D2 hI2 x2 e2
    have x12 := x1.trans x2
    refine .o (hI2.dat ((x12) _ _ ey)) ⟨y, f, n, R, D2, rfl, hI2, yr.mono x12, n, rfl, by omega, by omega, ?_⟩
    refine RMulM.lst (hI2.dat e2) (by omega) (by omega) (small_ok (by simp only [List.length_cons, List.length_nil]; omega)) ?_
    rw [wkl_zero]
    wtm_at "sh"
    rename_i q H3 hI3
    have z0 : wkl (fun _ => 0) n.toNat = wkl (headsW (([] : List (Addr × Rw')).map Prod.snd) f n) n.toNat := rfl
    rw [z0] at hI3
    have nn : ((n.toNat : Nat) : Int) = n := by omega
    refine for_seqR (ra.mono x12).s (fun _ q => List.mem_cons_of_mem _ q) (fun i σ R' D' => ∃ v3 v4 v5, σ = [some (.ref p), some (.ref y), some (.ref q), v3, v4, v5] ∧ R' = (q, .lst (wkl (headsW ((rs.take i).map Prod.snd) f n) n.toNat)) :: R ∧ Ex D2 D') hI3 ⟨_, _, _, rfl, rfl, Ex.refl _⟩ (fun i σ R' D' q => ?_) (fun i v σ R' D' H' hv hI' q => ?_) (fun σ R' D' H' hI' q => ?_)
    · obtain ⟨_, _, _, _, rfl, x⟩ := q
      exact ⟨fun _ q => List.mem_cons_of_mem _ q, x⟩
    · obtain ⟨v3, v4, v5, rfl, rfl, xq⟩ := q
      rw [List.getElem?_map] at hv
      obtain ⟨r, hr1, rfl⟩ := Option.map_eq_some_iff.mp hv
      have ir := (ra.i r (List.mem_of_getElem? hr1)).mono (x12.trans xq)
      have yq := yr.mono (x12.trans xq)
      have ok := ir.1
      obtain ⟨_, dx, sa, ea, iss⟩ := id ir
      wtm_at "sh"
      refine ready_use hI' ir yq.cell (fun v H4 D4 hI4 x4 cv => ?_)
      wtm_at "sh"
      have step : ∀ k, headsW ((rs.take (i + 1)).map Prod.snd) f n k = headsW ((rs.take i).map Prod.snd) f n k + (if inCut (r.2.cut f n) k = true then r.2.h else 0) := fun k => by
        rw [take_more hr1, List.map_append]
        exact headsW_snoc
      cases ec : r.2.cut f n with
      | none =>
        rw [ec] at cv step
        have : v = .non := cv
        subst this
        wtm_at "sh"
        refine ⟨_, _, hI4, _, _, _, rfl, ?_, xq.trans x4⟩
        rw [wkl_congr fun k _ => (step _).trans (Int.add_zero _)]
      | some c =>
        rw [ec] at cv step
        obtain ⟨pc, rfl, epc⟩ := cv
        obtain ⟨c0, c1, c2, c3⟩ := cut_in_year iss.1.k0 ec
        have w0 := ok.w0
        wtm_at "sh"
        refine for_rng (fun j σ R' D' => ∃ v5, σ = [some (.ref p), some (.ref y), some (.ref q), some (.ref r.1), some (.ref pc), v5] ∧ R' = (q, .lst (wkl (fun k => headsW ((rs.take i).map Prod.snd) f n k + (if c.1 ≤ k ∧ k < c.1 + (j : Int) then r.2.h else 0)) n.toNat)) :: R ∧ D' = D4) hI4 ⟨_, rfl, ?_, rfl⟩ (fun j σ R' D' H' hj hI' q => ?_) (fun σ R' D' H' hI' q => ?_)
        · exact congrArg (fun z => (q, HO.lst z) :: R) (wkl_congr fun k _ => by
            rw [if_neg (by omega), Int.add_zero])
        · obtain ⟨v5, rfl, rfl, hDD⟩ := q
          rw [hDD] at hI'
          have ea4 := x4 _ _ ea
          have hjl : (c.1 + (j : Int) - 1).toNat < n.toNat := by omega
          have hjc : (((c.1 + (j : Int) - 1).toNat : Nat) : Int) + 1 = c.1 + (j : Int) := by omega
          wtm_at "sh"
          refine RGetL.l (hI'.get (List.mem_cons_self ..)) (by omega) (wkl_get hjl) ?_
          wtm_at "sh"
          refine rint_use hI' (ir.mono x4) ?_
          wtm_at "sh"
          refine set_c hI' (ixN_of (j := (c.1 + (j : Int) - 1).toNat) (by omega) (by rw [wkl_len]; exact hjl)) (fun H5 hI5 => ?_)
          rw [wkl_set (g' := fun k => headsW ((rs.take i).map Prod.snd) f n k + (if c.1 ≤ k ∧ k < c.1 + ((j + 1 : Nat) : Int) then r.2.h else 0)) hjl (by
            rw [hjc, if_pos (by omega), if_neg (by omega)]
            omega) (fun k hk hne => by
            by_cases hc : c.1 ≤ (k : Int) + 1 ∧ (k : Int) + 1 < c.1 + (j : Int)
            · rw [if_pos hc, if_pos (by omega)]
            · rw [if_neg hc, if_neg (by omega)])] at hI5
          exact ⟨_, _, hI5, _, rfl, rfl, rfl⟩
        · obtain ⟨v5, rfl, rfl, hDD⟩ := q
          rw [hDD] at hI'
          refine ⟨_, _, hI', _, _, _, rfl, ?_, xq.trans x4⟩
          refine congrArg (fun z => (q, HO.lst z) :: R) (wkl_congr fun k hk => ?_)
          rw [step]
          congr 1
          by_cases hc : c.1 ≤ (k : Int) + 1 ∧ (k : Int) + 1 ≤ c.2
          · rw [if_pos (by omega), if_pos (inCut_iff.mpr hc)]
          · rw [if_neg (by omega), if_neg (fun z => hc (inCut_iff.mp z))]
    · obtain ⟨v3, v4, v5, rfl, rfl, xq⟩ := q
      rw [List.length_map, List.take_of_length_le (Nat.le_refl _)] at hI'
      wtm_at "sh"
      exact go _ _ _ hI' (x12.trans xq)
theorem week_heads_use {K : PySem.W.Frag} {p y : Addr} {rs : List (Addr × Rw')} {f : Wf} {n : Int} {R : Cells} {D H : Hp} {Q : VK} {E : XK} (hI : HI H R D) (ra : RsAt K R D p rs) (yr : YrAt K R D y f n)
    (q : ∀ q H' D', HI H' ((q, .lst (wkl (headsW (rs.map Prod.snd) f n) n.toNat)) :: R) D' → Ex D D' → Q (.ref q) H') : spWeekHeads K [.ref p, .ref y] H Q E := ⟨p, y, rs, f, n, R, D, rfl, hI, ra, yr, q⟩
/-- copied: another year, with a dict of its own -/
def spCopied (K : PySem.W.Frag) : Sp := fun vs H Q _ => ∃ (a nl td : Addr) (ns : List (Int × Int)) (kvs : List (Key × V)) (m : Int → Option (Int × Int)) (R : Cells) (D : Hp), vs = [.ref a] ∧ HI H R D ∧ IsYr K D a nl td ns ∧ ((td, HO.dK kvs) : Addr × HO) ∈ R ∧ Told D kvs m ns.length ∧
  ∀ (b nl2 td2 : Addr) H' D', HI H' ((td2, .dK kvs) :: R) D' → Ex D D' → IsYr K D' b nl2 td2 ns → Q (.ref b) H'
set_option maxHeartbeats 1000000 in
theorem ok_Year_copied {P : Program} {w : World} {K : PySem.W.Frag} {mg : Str → Option Value} {base : Heap} (T : Tx K mg) : FnG P w K mg base 6 (a_Year_copied K) ["self"] (spCopied K) := by
  refine T.f_Year_copied.ok sc_Year_copied (fun vs H Q E h => ?_) (fun cdv A outer s H vs Q E hgu hr h => ⟨_, (pss_cons (ps_set (i := 1) sc_Year_copied.nd rfl (Or.inl rfl) (ge_makeN T.mk_Year (ok_Year_init T) hgu (hr.mono (by decide)) rfl T.g_Year T.kb_Year_init_2 (fun _ => pass_takes (takes_of rfl rfl rfl rfl)) (pa_cons (pe_fld (pv 0) rfl) pa_nil) pk_nil))
 (pss_cons (ps_fld (pv 1) (pe_callTy (call_dictOM rfl) (by rfl) T.n_dict boot_dict (pa_cons (pe_fld (pv 0) rfl) pa_nil)) rfl)
 (pss_one (ps_ret (pv 1))))), ?_⟩)
  · obtain ⟨a, nl, td, ns, kvs, m, R, D, rfl, _⟩ := h
    rfl
  · obtain ⟨a, nl, td, ns, kvs, m, R, D, rfl, hI, iy, mm, told, go⟩ := h
    have pc := T.pc_Year
    obtain ⟨⟨dx, ea⟩, ⟨xs, en, pl⟩, l0, l1, wo⟩ := id iy
    have et := hI.get mm
    wtm_at "go"
    wtm_at "sh"
    rename_i b db H1 hI1
    refine ⟨b, db, nl, xs, ns, (db, .own b) :: R, D, rfl, hI1, .l en, pl, l0, l1, wo, fun nl2 td0 H2 D2 hI2 x2 en2 => ⟨rfl, ?_⟩⟩
    have hI3 : HI H2 ((b, .ins (He.ga K "Year") db (yrF nl2 td0)) :: (db, .own b) :: (td0, .dK []) :: R) D2 := hI2.dn2
    have ea2 := x2 _ _ ea
    have mm3 : ((td, HO.dK kvs) : Addr × HO) ∈ (b, HO.ins (He.ga K "Year") db (yrF nl2 td0)) :: (db, .own b) :: (td0, .dK []) :: R := List.mem_cons_of_mem _ (List.mem_cons_of_mem _ (List.mem_cons_of_mem _ mm))
    have et3 := hI3.get mm3
    wtm_at "sh"
    refine .d et3 ?_
    refine al_M hI3 (fun td2 H4 hI4 => ?_)
    have hI5 := hI4.swap
    wtm_at "sh"
    rename_i H6 hI6
    have ep : putF "kept_told" (.ref td2) (yrF nl2 td0) = yrF nl2 td2 := rfl
    rw [ep] at hI6
    have hI7 : HI H6 ((b, .ins (He.ga K "Year") db (yrF nl2 td2)) :: (db, .own b) :: (td2, .dK kvs) :: (td0, .dK []) :: R) D2 := hI6.perm (List.Perm.cons _ (List.Perm.swap ..))
    obtain ⟨D3, hI8, x3, e3⟩ := hI7.freezeI
    exact go b nl2 td2 _ _ hI8.swap.drop (x2.trans x3) ⟨⟨db, e3⟩, ⟨xs, x3 _ _ en2, pl.mono (x2.trans x3)⟩, l0, l1, wo⟩
theorem copied_use {K : PySem.W.Frag} {a nl td : Addr} {ns : List (Int × Int)} {kvs : List (Key × V)} {m : Int → Option (Int × Int)} {R : Cells} {D H : Hp} {Q : VK} {E : XK} (hI : HI H R D) (iy : IsYr K D a nl td ns) (mm : ((td, HO.dK kvs) : Addr × HO) ∈ R) (t : Told D kvs m ns.length)
    (q : ∀ (b nl2 td2 : Addr) H' D', HI H' ((td2, .dK kvs) :: R) D' → Ex D D' → IsYr K D' b nl2 td2 ns → Q (.ref b) H') : spCopied K [.ref a] H Q E := ⟨a, nl, td, ns, kvs, m, R, D, rfl, hI, iy, mm, t, q⟩
def cD : Option (Int × Int) → PyData
  | none => .none
  | some p => .tuple [.int p.1, .int p.2]
theorem CutAt.rep {H : Hp} {v : V} {o : Option (Int × Int)} (h : CutAt H v o) : Rep H v (cD o) := by
  cases o with
  | none =>
    have : v = .non := h
    rw [this]
    exact .non
  | some p =>
    obtain ⟨q, rfl, e⟩ := h
    exact .tup e (.cons (.int _) (.cons (.int _) .nil))
theorem cD_dict {o : Option (Int × Int)} : (cD o).hasDict = false := by cases o <;> simp [cD, PyData.hasDict, PyData.hasDictAll]
theorem cD_shaped {o : Option (Int × Int)} : SeqAt.shaped (cD o) = true := by cases o <;> simp [cD, SeqAt.shaped, PyData.canLay0, PyData.canLayAll0, PyData.depth, PyData.depthAll]
theorem cD_eqv {o u : Option (Int × Int)} : PyData.eqv (cD o) (cD u) = decide (o = u) := by
  cases o with
  | none => cases u <;> simp [cD, PyData.eqv]
  | some p =>
    cases u with
    | none => simp [cD, PyData.eqv]
    | some q =>
      obtain ⟨a, b⟩ := p
      obtain ⟨c, d⟩ := q
      rw [Bool.eq_iff_iff]
      simp [cD, PyData.eqv, PyData.eqvAll]
theorem rne_cut {H : Hp} {Q : VK} {x y : V} {o u : Option (Int × Int)} (h1 : CutAt H x o) (h2 : CutAt H y u) (q : Q (.bl (!decide (o = u))) H) : REq true x y H Q :=
  rne_dat h1.rep h2.rep cD_dict cD_dict cD_shaped cD_shaped (by rw [cD_eqv]; exact q)
abbrev Mv := Nat × Option (Int × Int) × Option (Int × Int)
def movT (f f' : Wf) (n : Int) (r : Rw') (i : Nat) : Mv := (i, r.cut f n, r.cut f' n)
def movs (rs : List Rw') (f f' : Wf) (n : Int) : List Mv := (rs.zipIdx.map fun p => movT f f' n p.1 p.2).filter fun t => !decide (t.2.1 = t.2.2)
theorem movs_snoc {rs : List Rw'} {r : Rw'} {f f' : Wf} {n : Int} : movs (rs ++ [r]) f f' n = movs rs f f' n ++ (if (!decide (r.cut f n = r.cut f' n)) = true then [movT f f' n r rs.length] else []) := by
  unfold movs
  rw [List.zipIdx_append, List.map_append, List.filter_append]
  congr 1
  rw [Nat.zero_add]
  exact fil_one
def MvAt (D : Hp) (v : V) (t : Mv) : Prop := ∃ p a b, v = .ref p ∧ D p = some (.tup [.int t.1, a, b]) ∧ CutAt D a t.2.1 ∧ CutAt D b t.2.2
theorem MvAt.mono {D D' : Hp} {v : V} {t : Mv} (h : MvAt D v t) (x : Ex D D') : MvAt D' v t := by
  obtain ⟨p, a, b, e, h, h1, h2⟩ := h
  exact ⟨p, a, b, e, x _ _ h, h1.mono x, h2.mono x⟩
abbrev MvsAt (D : Hp) (xs : List V) (ts : List Mv) : Prop := Paired (MvAt D) xs ts
theorem MvsAt.mono {D D' : Hp} {xs : List V} {ts : List Mv} (h : MvsAt D xs ts) (x : Ex D D') : MvsAt D' xs ts := paired_mono (fun _ _ q => q.mono x) h
theorem tellO_use {K : PySem.W.Frag} {a nl td : Addr} {ns : List (Int × Int)} {kvs : List (Key × V)} {m : Int → Option (Int × Int)} {k w : Int} {co : Option Int} {R : Cells} {D H : Hp} {Q : VK} {E : XK} (hI : HI H ((td, .dK kvs) :: R) D) (iy : IsYr K D a nl td ns) (t : Told D kvs m ns.length) (k0 : 1 ≤ k) (k1 : k ≤ ns.length) (w0 : 0 ≤ w) (w1 : w ≤ 400) (hco : ∀ x, co = some x → -60 ≤ x ∧ x ≤ 60)
    (q : ∀ kvs' H' D', HI H' ((td, .dK kvs') :: R) D' → Ex D D' → Told D' kvs' (putM m k (some (w, co.getD (stand ns m k).2))) ns.length → Q .non H') : spTell K [.ref a, .int k, .int w, oV co] H Q E :=
  ⟨a, nl, td, ns, kvs, m, .int k, .int w, oV co, R, D, rfl, hI, iy, t, (Th.kn (.int _)).m, (Th.kn (.int _)).m, (by cases co with
    | none => exact (Th.kn .non).m
    | some x => exact (Th.kn (.int x)).m), fun k' w' ci e1 e2 e3 _ _ _ _ _ kvs' H' D' h x t' => by
      cases e1; cases e2
      have : ci = co := by
        cases ci with
        | none => cases co with
          | none => rfl
          | some y => cases e3
        | some z => cases co with
          | none => cases e3
          | some y => cases e3; rfl
      subst this
      exact q _ _ _ h x t', (fun h => absurd h (by rw [whole_ok k0 k1]; decide)), (fun _ h => absurd h (by rw [whole_ok w0 w1]; decide)), (fun _ _ hn h => by
      cases co with
      | none => exact absurd rfl hn
      | some x =>
        obtain ⟨c0, c1⟩ := hco x rfl
        exact absurd h (by show ¬ wholeB (.int x) (-60) 60 = false; rw [whole_ok c0 c1]; decide))⟩
def spMoved (K : PySem.W.Frag) : Sp := fun vs H Q _ => ∃ (p y nl td : Addr) (ns : List (Int × Int)) (kvs : List (Key × V)) (m : Int → Option (Int × Int)) (k w : Int) (co : Option Int) (rs : List (Addr × Rw')) (R : Cells) (D : Hp), vs = [.ref p, .ref y, .int k, .int w, oV co] ∧ HI H R D ∧ D p = some (.lst (rs.map fun r => .ref r.1)) ∧ (∀ r ∈ rs, IsRow K D r.1 r.2) ∧ rs.length ≤ 40 ∧
  IsYr K D y nl td ns ∧ ((td, HO.dK kvs) : Addr × HO) ∈ R ∧ Told D kvs m ns.length ∧ 1 ≤ k ∧ k ≤ ns.length ∧ 0 ≤ w ∧ w ≤ 400 ∧ (∀ x, co = some x → -60 ≤ x ∧ x ≤ 60) ∧
  ∀ q xs H' D', HI H' ((q, .lst xs) :: R) D' → Ex D D' → MvsAt D' xs (movs (rs.map Prod.snd) (stand ns m) (stand ns (putM m k (some (w, co.getD (stand ns m k).2)))) ns.length) → Q (.ref q) H'
set_option maxHeartbeats 2000000 in
theorem ok_moved {P : Program} {w : World} {K : PySem.W.Frag} {mg : Str → Option Value} {base : Heap} (T : Tx K mg) : FnG P w K mg base 10 (a_moved K) ["rows", "year", "week", "warmth", "cold"] (spMoved K) := by
  refine T.f_moved.ok sc_moved (fun vs H Q E h => ?_) (fun cdv A outer s H vs Q E hgu hr h => ⟨_, (pss_cons (ps_expr (ge_call (ok_need_rows T) hgu (hr.mono (by decide)) rfl T.g_need_rows T.k_need_rows T.b_need_rows .nil (fun _ => pass_takes (takes_of rfl rfl rfl rfl)) (pa_cons (pv 0) pa_nil)))
 (pss_cons (ps_expr (ge_call (ok_need_year T) hgu (hr.mono (by decide)) rfl T.g_need_year T.k_need_year T.b_need_year .nil (fun _ => pass_takes (takes_of rfl rfl rfl rfl)) (pa_cons (pv 1) pa_nil)))
 (pss_cons (ps_set (i := 5) sc_moved.nd rfl (Or.inl rfl) (ge_meth0 (pv 1) T.cl_Year T.m_Year_copied (ok_Year_copied T) hgu (hr.mono (by decide)) T.b_Year_copied .nil (fun _ => pass_takes (takes_of rfl rfl rfl rfl))))
 (pss_cons (ps_expr (ge_methN (pv 5) T.cl_Year T.m_Year_tell (ok_Year_tell T) hgu (hr.mono (by decide)) T.kb_Year_tell_3_cold (fun _ => pass_takes (takes_of rfl rfl rfl rfl)) (pa_cons (pv 2) (pa_cons (pv 3) pa_nil)) (pk_cons (pv 4) pk_nil)))
 (pss_cons (ps_set (i := 6) sc_moved.nd rfl (Or.inl rfl) (pe_lstM pa_nil))
 (pss_cons (ps_for (passes_of rfl) rfl (pi_enum (by rfl) T.n_enumerate (pa_cons (pv 0) pa_nil)) (pg_tup (by rfl) (pgs_cons (pg_name (i := 7) sc_moved.nd rfl (Or.inl rfl)) (pgs_cons (pg_name (i := 8) sc_moved.nd rfl (Or.inl rfl)) pgs_nil))) (pss_cons (ps_par (i := 9) (j := 10) (by rfl) sc_moved.nd rfl rfl (by decide) rfl rfl (pa_cons (ge_call (ok_ready_in T) hgu (hr.mono (by decide)) rfl T.g_ready_in T.k_ready_in T.b_ready_in .nil (fun _ => pass_takes (takes_of rfl rfl rfl rfl)) (pa_cons (pv 8) (pa_cons (pv 1) pa_nil))) (pa_cons (ge_call (ok_ready_in T) hgu (hr.mono (by decide)) rfl T.g_ready_in T.k_ready_in T.b_ready_in .nil (fun _ => pass_takes (takes_of rfl rfl rfl rfl)) (pa_cons (pv 8) (pa_cons (pv 5) pa_nil))) pa_nil)) (by rfl))
 (pss_one (ps_if (pt_cmpR (op_neU hr.units) (pv 9) (pv 10) (nomark _)) (pss_one (ps_expr (pe_bm PySem.F.plainAttrs_list PySem.F.slot_list_append PySem.F.type_list_append mt_append (pv 6) (pa_cons (pe_tup (pa_cons (pv 7) (pa_cons (pv 9) (pa_cons (pv 10) pa_nil)))) pa_nil)))) pss_nil))))
 (pss_one (ps_ret (pv 6))))))))), ?_⟩)
  · obtain ⟨p, y, nl, td, ns, kvs, m, k, w, co, rs, R, D, rfl, _⟩ := h
    rfl
  · obtain ⟨p, y, nl, td, ns, kvs, m, k, w, co, rs, R, D, rfl, hI, ep, hrs, rl, iy, mm, told, k0, k1, w0, w1, hco, go⟩ := h
    have yr := iy.at mm told
    obtain ⟨⟨dx, ey⟩, _⟩ := id iy
    wtm_at "go"
    wtm_at "sh"
    refine need_rows_use hI ⟨.l ep, hrs, rl⟩ (fun H1 D1 hI1 x1 => ?_)
    wtm_at "sh"
    refine ⟨y, _, _, R, D1, rfl, hI1, yr.mono x1, ?_⟩
    wtm_at "sh"
    refine copied_use hI1 (iy.mono x1) mm (told.mono x1) (fun b nl2 td2 H2 D2 hI2 x2 iyb => ?_)
    obtain ⟨⟨dxb, eb⟩, _⟩ := id iyb
    wtm_at "sh"
    have x12 := x1.trans x2
    refine tellO_use hI2 iyb (told.mono x12) k0 k1 w0 w1 hco (fun kvs' H3 D3 hI3 x3 t3 => ?_)
    wtm_at "sh"
    rename_i q H4 hI4
    have x13 := x12.trans x3
    have yb : YrAt K ((td2, .dK kvs') :: R) D3 b (stand ns (putM m k (some (w, co.getD (stand ns m k).2)))) ns.length := (iyb.mono x3).at (List.mem_cons_self ..) t3
    generalize stand ns (putM m k (some (w, co.getD (stand ns m k).2))) = f' at go yb
    have ep3 := x13 _ _ ep
    wtm_at "sh"
    refine for_enum (xs := rs.map fun r => V.ref r.1) (fun i σ R' D' => ∃ (v7 v8 v9 v10 : Option V) (xs : List V), σ = [some (.ref p), some (.ref y), some (.int k), some (.int w), some (oV co), some (.ref b), some (.ref q), v7, v8, v9, v10] ∧ R' = (q, .lst xs) :: (td2, .dK kvs') :: R ∧ Ex D3 D' ∧ MvsAt D' xs (movs ((rs.take i).map Prod.snd) (stand ns m) f' ns.length)) hI4 ⟨_, _, _, _, [], rfl, rfl, Ex.refl _, .nil⟩ (fun i σ R' D' q => ?_) (fun i v TT σ R' D' D'' H' hv hI' x34 eT q => ?_) (fun σ R' D' H' hI' q => ?_)
    · obtain ⟨_, _, _, _, _, _, _, x, _⟩ := q
      exact x _ _ ep3
    · obtain ⟨v7, v8, v9, v10, xs, rfl, rfl, xq, mv⟩ := q
      rw [List.getElem?_map] at hv
      obtain ⟨r, hr1, rfl⟩ := Option.map_eq_some_iff.mp hv
      have hi : i < rs.length := (List.getElem?_eq_some_iff.mp hr1).1
      have x3' := xq.trans x34
      have ir := (hrs r (List.mem_of_getElem? hr1)).mono (x13.trans x3')
      have yy := (yr.mono (x13.trans x3')).cell (c := (td2, HO.dK kvs')) |>.cell (c := (q, HO.lst xs))
      have ybb := (yb.mono x3').cell (c := (q, HO.lst xs))
      have hxl := mv.length
      wtm_at "sh"
      refine ready_use hI' ir yy (fun va H5 D5 hI5 x5 ca => ?_)
      wtm_at "sh"
      refine ready_use hI5 (ir.mono x5) (ybb.mono x5) (fun vb H6 D6 hI6 x6 cb => ?_)
      wtm_at "sh"
      refine rne_cut ((ca.mono x6).mono hI6.sub) (cb.mono hI6.sub) ?_
      wtm_at "sh"
      have step : movs ((rs.take (i + 1)).map Prod.snd) (stand ns m) f' ns.length = movs ((rs.take i).map Prod.snd) (stand ns m) f' ns.length ++ (if (!decide (r.2.cut (stand ns m) ns.length = r.2.cut f' ns.length)) = true then [movT (stand ns m) f' ns.length r.2 i] else []) := by
        rw [take_more hr1, List.map_append]
        have h := movs_snoc (rs := (rs.take i).map Prod.snd) (r := r.2) (f := stand ns m) (f' := f') (n := ns.length)
        rw [List.length_map, List.length_take, Nat.min_eq_left (Nat.le_of_lt hi)] at h
        exact h
      have hml : (movs ((rs.take i).map Prod.snd) (stand ns m) f' ns.length).length ≤ 40 := by
        unfold movs
        refine Nat.le_trans (List.length_filter_le _ _) ?_
        rw [List.length_map, List.length_zipIdx, List.length_map, List.length_take]
        omega
      by_cases hd : r.2.cut (stand ns m) ns.length = r.2.cut f' ns.length
      · rw [decide_eq_true hd]
        wtm_at "sh"
        refine ⟨_, _, hI6, _, _, _, _, xs, rfl, rfl, x3'.trans (x5.trans x6), ?_⟩
        rw [step, decide_eq_true hd]
        show MvsAt _ _ (_ ++ [])
        rw [List.append_nil]
        exact mv.mono (x34.trans (x5.trans x6))
      · rw [decide_eq_false hd]
        wtm_at "sh"
        rename_i pt H7 D7 hI7 x7 e7 H8 hI8
        have x57 := x5.trans (x6.trans x7)
        refine ⟨_, _, hI8, _, _, _, _, xs ++ [.ref pt], rfl, rfl, x3'.trans x57, ?_⟩
        rw [step, decide_eq_false hd]
        exact paired_snoc ⟨pt, va, vb, rfl, e7, ca.mono (x6.trans x7), cb.mono x7⟩ (mv.mono (x34.trans x57))
    · obtain ⟨v7, v8, v9, v10, xs, rfl, rfl, xq, mv⟩ := q
      rw [List.length_map, List.take_of_length_le (Nat.le_refl _)] at mv
      wtm_at "sh"
      exact go _ _ _ _ hI'.swap.drop (x13.trans xq) mv
theorem moved_use {K : PySem.W.Frag} {p y nl td : Addr} {ns : List (Int × Int)} {kvs : List (Key × V)} {m : Int → Option (Int × Int)} {k w : Int} {co : Option Int} {rs : List (Addr × Rw')} {R : Cells} {D H : Hp} {Q : VK} {E : XK} (hI : HI H R D) (ep : D p = some (.lst (rs.map fun r => .ref r.1))) (hrs : ∀ r ∈ rs, IsRow K D r.1 r.2) (rl : rs.length ≤ 40)
    (iy : IsYr K D y nl td ns) (mm : ((td, HO.dK kvs) : Addr × HO) ∈ R) (t : Told D kvs m ns.length) (k0 : 1 ≤ k) (k1 : k ≤ ns.length) (w0 : 0 ≤ w) (w1 : w ≤ 400) (hco : ∀ x, co = some x → -60 ≤ x ∧ x ≤ 60)
    (q : ∀ q xs H' D', HI H' ((q, .lst xs) :: R) D' → Ex D D' → MvsAt D' xs (movs (rs.map Prod.snd) (stand ns m) (stand ns (putM m k (some (w, co.getD (stand ns m k).2)))) ns.length) → Q (.ref q) H') : spMoved K [.ref p, .ref y, .int k, .int w, oV co] H Q E :=
  ⟨p, y, nl, td, ns, kvs, m, k, w, co, rs, R, D, rfl, hI, ep, hrs, rl, iy, mm, t, k0, k1, w0, w1, hco, q⟩
/-- what a sort needs, keeps, bears -/
structure Num where
  (n k b : Int)
def Num.Ok (q : Num) : Prop := 1 ≤ q.n ∧ q.n ≤ 10000 ∧ 1 ≤ q.k ∧ q.k ≤ 12 ∧ -60 ≤ q.b ∧ q.b ≤ 60
def spLNumbers : Sp := fun vs H Q _ => ∃ (b : Addr) (R : Cells) (D : Hp) (x y z : Int) (n : Nat), vs = [.ref b] ∧ HI H ((b, bx x y z) :: R) D ∧ BoxOk n x y z ∧ n + 100 < 1000000 ∧
  ∀ (p : Addr) (q : Num) x' y' z' n' H' D', HI H' ((b, bx x' y' z') :: R) D' → Ex D D' → BoxOk n' x' y' z' → n' ≤ n + 20 → D' p = some (.tup [.int q.n, .int q.k, .int q.b]) → q.Ok → Q (.ref p) H'
set_option maxHeartbeats 1000000 in
theorem ok_l_numbers {P : Program} {w : World} {K : PySem.W.Frag} {mg : Str → Option Value} {base : Heap} (T : Tx K mg) : FnG P w K mg base 2 (a_l_numbers K) ["box"] spLNumbers := by
  refine T.f_l_numbers.ok sc_l_numbers (fun vs H Q E h => ?_) (fun cdv A outer s H vs Q E hgu hr h => ⟨_, (pss_cons (ps_set (i := 1) sc_l_numbers.nd rfl (Or.inl rfl) (pe_ix ix_U (pe_lst (pa_cons pe_int (pa_cons pe_int (pa_cons (pe_op op_addU pe_int (ge_call (ok_l_take T) hgu (hr.mono (by decide)) rfl T.g_l_take T.k_l_take T.b_l_take .nil (fun _ => pass_takes (takes_of rfl rfl rfl rfl)) (pa_cons (pv 0) (pa_cons pe_int pa_nil)))) (pa_cons (pe_op op_addU pe_int (ge_call (ok_l_take T) hgu (hr.mono (by decide)) rfl T.g_l_take T.k_l_take T.b_l_take .nil (fun _ => pass_takes (takes_of rfl rfl rfl rfl)) (pa_cons (pv 0) (pa_cons pe_int pa_nil)))) pa_nil))))) (ge_call (ok_l_take T) hgu (hr.mono (by decide)) rfl T.g_l_take T.k_l_take T.b_l_take .nil (fun _ => pass_takes (takes_of rfl rfl rfl rfl)) (pa_cons (pv 0) (pa_cons pe_int pa_nil))) (fun _ _ => rfl)))
 (pss_one (ps_ret (pe_tup (pa_cons (pv 1) (pa_cons (pe_op op_addU pe_int (ge_call (ok_l_take T) hgu (hr.mono (by decide)) rfl T.g_l_take T.k_l_take T.b_l_take .nil (fun _ => pass_takes (takes_of rfl rfl rfl rfl)) (pa_cons (pv 0) (pa_cons pe_int pa_nil)))) (pa_cons (pe_ix ix_U (pe_lst (pa_cons (pe_un un_neg pe_int) (pa_cons pe_int (pa_cons (pe_op op_sub (ge_call (ok_l_take T) hgu (hr.mono (by decide)) rfl T.g_l_take T.k_l_take T.b_l_take .nil (fun _ => pass_takes (takes_of rfl rfl rfl rfl)) (pa_cons (pv 0) (pa_cons pe_int pa_nil))) pe_int) (pa_cons (pe_op op_sub (ge_call (ok_l_take T) hgu (hr.mono (by decide)) rfl T.g_l_take T.k_l_take T.b_l_take .nil (fun _ => pass_takes (takes_of rfl rfl rfl rfl)) (pa_cons (pv 0) (pa_cons pe_int pa_nil))) pe_int) pa_nil))))) (ge_call (ok_l_take T) hgu (hr.mono (by decide)) rfl T.g_l_take T.k_l_take T.b_l_take .nil (fun _ => pass_takes (takes_of rfl rfl rfl rfl)) (pa_cons (pv 0) (pa_cons pe_int pa_nil))) (fun _ _ => rfl)) pa_nil))))))), ?_⟩)
  · obtain ⟨b, R, D, x, y, z, n, rfl, _⟩ := h
    rfl
  · obtain ⟨b, R, D, x, y, z, n, rfl, hI, hb, hn, go⟩ := h
    wtm_at "go"
    wtm_at "sm"
    refine RIx.pickI (lo := 1) (hi := 10000) (by wtm_at "hp") (all_c ⟨_, rfl, by omega, by omega⟩ (all_c ⟨_, rfl, by omega, by omega⟩ (all_c ⟨_, rfl, by omega, by omega⟩ (all_c ⟨_, rfl, by omega, by omega⟩ all_n)))) (by assumption) (by assumption) (fun i1 a0 a1 => ?_)
    wtm_at "sm"
    rename_i rk xk yk zk Hk hIk bok rk0 rk1 pB HB DB hIB xB eB rB xb yb zb Hb hIb bob rb0 rb1
    refine RIx.pickI (lo := -60) (hi := 60) (by wtm_at "hp") (all_c ⟨_, rfl, by omega, by omega⟩ (all_c ⟨_, rfl, by omega, by omega⟩ (all_c ⟨_, rfl, by omega, by omega⟩ (all_c ⟨_, rfl, by omega, by omega⟩ all_n)))) (by assumption) (by assumption) (fun i3 c0 c1 => ?_)
    wtm_at "sm"
    rename_i pt Ht Dt hIt xt et
    refine go pt ⟨i1, 1 + _, i3⟩ _ _ _ _ _ _ hIt (by wtm_at "ex") bob (by omega) et ⟨a0, a1, ?_, ?_, c0, c1⟩
    · show 1 ≤ 1 + _
      omega
    · show 1 + _ ≤ 12
      omega
/-- a week or two of them, so many weeks later -/
def spLLater : Sp := fun vs H Q _ => ∃ (v : V) (by_ : Int) (R : Cells) (D : Hp), vs = [v, .int by_] ∧ HI H R D ∧
  (((v = .non) ∧ Q .non H) ∨ (∃ i, v = .int i ∧ Q (.int (i + by_)) H) ∨ (∃ p i j, v = .ref p ∧ D p = some (.tup [.int i, .int j]) ∧ ∀ q H' D', HI H' R D' → Ex D D' → D' q = some (.tup [.int (i + by_), .int (j + by_)]) → Q (.ref q) H'))
set_option maxHeartbeats 1000000 in
theorem ok_l_later {P : Program} {w : World} {K : PySem.W.Frag} {mg : Str → Option Value} {base : Heap} (T : Tx K mg) : FnG P w K mg base 1 (a_l_later K) ["thing", "by"] spLLater := by
  refine T.f_l_later.ok sc_l_later (fun vs H Q E h => ?_) (fun cdv A outer s H vs Q E hgu hr h => ⟨_, (pss_cons (ps_if (pt_cmpR op_isU (pv 0) pe_non (nomark _)) (pss_one (ps_ret pe_non)) pss_nil)
 (pss_one (ps_ret (pe_ifExp (pt_val (pe_callB (show CallR _ (.builtin "isinstance") (RIsi K) from call_isiU) (by rfl) T.n_isinstance boot_isinstance (pa_cons (pv 0) (pa_cons (pe_bltn (v := .ty "tuple") (by rfl) T.n_tuple boot_tuple rfl) pa_nil)))) (pe_tup (pa_cons (pe_op op_addU (pe_ix ix_U (pv 0) pe_int (fun _ _ => rfl)) (pv 1)) (pa_cons (pe_op op_addU (pe_ix ix_U (pv 0) pe_int (fun _ _ => rfl)) (pv 1)) pa_nil))) (pe_op op_addU (pv 0) (pv 1)))))), ?_⟩)
  · obtain ⟨v, by_, R, D, rfl, _⟩ := h
    rfl
  · obtain ⟨v, by_, R, D, rfl, hI, h⟩ := h
    rcases h with ⟨rfl, go⟩ | ⟨i, rfl, go⟩ | ⟨p, i, j, rfl, e, go⟩
    · wtm_at "go"
      wtm_at "sm"
      exact go
    · wtm_at "go"
      wtm_at "sm"
      exact go
    · wtm_at "go"
      wtm_at "sm"
      rename_i pt Ht Dt hIt xt et
      exact go _ _ _ hIt xt et
/-- a row's card: its sort's place, its numbers and its kin's place, its week, its heads -/
structure Crd where
  (at_ : Int) (q : Num) (kp w h : Int)
def NumAt (D : Hp) (v : V) (q : Num) (kp : Int) : Prop := ∃ p, v = .ref p ∧ D p = some (.tup [.int q.n, .int q.k, .int q.b, .int kp]) ∧ q.Ok ∧ (kp = 0 ∨ kp = 1)
theorem NumAt.mono {D D' : Hp} {v : V} {q : Num} {kp : Int} (h : NumAt D v q kp) (x : Ex D D') : NumAt D' v q kp := let ⟨p, a, b, c⟩ := h; ⟨p, a, x _ _ b, c⟩
def CrdAt (D : Hp) (by_ : Int) (v : V) (c : Crd) : Prop := ∃ p qv, v = .ref p ∧ D p = some (.tup [.int c.at_, qv, .int c.w, .int c.h]) ∧ NumAt D qv c.q c.kp ∧ 0 ≤ c.at_ ∧ c.at_ < 4 ∧ 1 ≤ c.w ∧ c.w ≤ 52 - by_ ∧ 1 ≤ c.h ∧ c.h ≤ 1000
theorem CrdAt.mono {D D' : Hp} {by_ : Int} {v : V} {c : Crd} (h : CrdAt D by_ v c) (x : Ex D D') : CrdAt D' by_ v c := let ⟨p, qv, a, b, n, r⟩ := h; ⟨p, qv, a, x _ _ b, n.mono x, r⟩
theorem lnumbers_use {b : Addr} {R : Cells} {D H : Hp} {x y z : Int} {n : Nat} {Q : VK} {E : XK} (hI : HI H ((b, bx x y z) :: R) D) (bo : BoxOk n x y z) (hn : n + 100 < 1000000)
  (k : ∀ (p : Addr) (q : Num) x' y' z' n' H' D', HI H' ((b, bx x' y' z') :: R) D' → Ex D D' → BoxOk n' x' y' z' → n' ≤ n + 20 → D' p = some (.tup [.int q.n, .int q.k, .int q.b]) → q.Ok → Q (.ref p) H') : spLNumbers ([.ref b] ++ []) H Q E := ⟨b, R, D, x, y, z, n, rfl, hI, bo, hn, k⟩
def spLSceneC : Sp := fun vs H Q _ => ∃ (b wl : Addr) (by_ : Int) (xs : List V) (R : Cells) (D : Hp) (x y z : Int) (n : Nat), vs = [.ref b, .ref wl, .int by_] ∧ HI H ((b, bx x y z) :: R) D ∧ BoxOk n x y z ∧ n + 1000 < 1000000 ∧ D wl = some (.lst xs) ∧ 1 ≤ xs.length ∧ xs.length ≤ 52 ∧ 0 ≤ by_ ∧ by_ ≤ 51 ∧
  ∀ (p : Addr) (cs : List (V × Crd)) x' y' z' n' H' D', HI H' ((b, bx x' y' z') :: R) D' → Ex D D' → BoxOk n' x' y' z' → n' ≤ n + 200 → D' p = some (.lst (cs.map (·.1))) → 1 ≤ cs.length → cs.length ≤ 6 → (∀ c ∈ cs, CrdAt D' by_ c.1 c.2) → Q (.ref p) H'
set_option maxHeartbeats 2000000 in
theorem ok_l_scene {P : Program} {w : World} {K : PySem.W.Frag} {mg : Str → Option Value} {base : Heap} (T : Tx K mg) : FnG P w K mg base 3 (a_l_scene K) ["box", "weeks", "by"] spLSceneC := by
  refine T.f_l_scene.ok sc_l_scene (fun vs H Q E h => ?_) (fun cdv A outer s H vs Q E hgu hr h => ⟨_, (pss_cons (ps_setLc (i := 3) (own := [("k", 5)]) rfl sc_l_scene.nd rfl rfl (sw_true rfl rfl rfl (by decide +kernel)) (pi_range1 rfl T.n_range (pa_cons (pe_op op_addU pe_int (ge_call (ok_l_take T) hgu (hr.mono (by decide)) rfl T.g_l_take T.k_l_take T.b_l_take .nil (fun _ => pass_takes (takes_of rfl rfl rfl rfl)) (pa_cons (pv 0) (pa_cons pe_int pa_nil)))) pa_nil)) (blkOk_by (own := [("k", 5)]) (N := ["box", "weeks", "by", "sorts", "found", "k", "at", "week"]) (sc := defScope s_l_scene) (by decide +kernel)) (fun _ _ _ _ _ => (pg_name (i := 5) sc_l_scene.nd rfl (by first | exact Or.inl rfl | exact Or.inr rfl))) (fun _ _ _ _ _ => pts_nil) (fun _ _ _ _ _ => (pe_op op_addU (ge_call (ok_l_numbers T) hgu (hr.mono (by decide)) rfl T.g_l_numbers T.k_l_numbers T.b_l_numbers .nil (fun _ => pass_none) (pa_cons (pv 0) pa_nil)) (pe_tup (pa_cons (ge_call (ok_l_take T) hgu (hr.mono (by decide)) rfl T.g_l_take T.k_l_take T.b_l_take .nil (fun _ => pass_none) (pa_cons (pv 0) (pa_cons pe_int pa_nil))) pa_nil)))))
 (pss_cons (ps_set (i := 4) sc_l_scene.nd rfl (Or.inl rfl) (pe_lstM pa_nil))
 (pss_cons (ps_for (passes_of rfl) rfl (pi_range1 rfl T.n_range (pa_cons (pe_op op_addU pe_int (ge_call (ok_l_take T) hgu (hr.mono (by decide)) rfl T.g_l_take T.k_l_take T.b_l_take .nil (fun _ => pass_takes (takes_of rfl rfl rfl rfl)) (pa_cons (pv 0) (pa_cons pe_int pa_nil)))) pa_nil)) (pg_name (i := 5) sc_l_scene.nd rfl (Or.inl rfl)) (pss_cons (ps_set (i := 6) sc_l_scene.nd rfl (Or.inl rfl) (ge_call (ok_l_take T) hgu (hr.mono (by decide)) rfl T.g_l_take T.k_l_take T.b_l_take .nil (fun _ => pass_takes (takes_of rfl rfl rfl rfl)) (pa_cons (pv 0) (pa_cons (pe_callB (call_lenU) (by rfl) T.n_len boot_len (pa_cons (pv 3) pa_nil)) pa_nil))))
 (pss_cons (ps_set (i := 7) sc_l_scene.nd rfl (Or.inl rfl) (pe_op op_addU pe_int (ge_call (ok_l_take T) hgu (hr.mono (by decide)) rfl T.g_l_take T.k_l_take T.b_l_take .nil (fun _ => pass_takes (takes_of rfl rfl rfl rfl)) (pa_cons (pv 0) (pa_cons (pe_callB (call_minU rfl) (by rfl) T.n_min boot_min (pa_cons (pe_op op_sub pe_int (pv 2)) (pa_cons (pe_op op_addU (pe_callB (call_lenU) (by rfl) T.n_len boot_len (pa_cons (pv 1) pa_nil)) pe_int) pa_nil))) pa_nil)))))
 (pss_one (ps_expr (pe_bm PySem.F.plainAttrs_list PySem.F.slot_list_append PySem.F.type_list_append mt_append (pv 4) (pa_cons (pe_tup (pa_cons (pv 6) (pa_cons (pe_ix ix_U (pv 3) (pv 6) (fun _ _ => rfl)) (pa_cons (pv 7) (pa_cons (pe_op op_addU pe_int (ge_call (ok_l_take T) hgu (hr.mono (by decide)) rfl T.g_l_take T.k_l_take T.b_l_take .nil (fun _ => pass_takes (takes_of rfl rfl rfl rfl)) (pa_cons (pv 0) (pa_cons pe_int pa_nil)))) pa_nil))))) pa_nil)))))))
 (pss_one (ps_ret (pv 4)))))), ?_⟩)
  · obtain ⟨b, wl, by_, xs, R, D, x, y, z, n, rfl, _⟩ := h
    rfl
  · obtain ⟨b, wl, by_, xs, R, D, x, y, z, n, rfl, hI, hb, hn, ew, l0, l1, b0, b1, go⟩ := h
    wtm_at "go"
    wtm_at "sm"
    rename_i r1 x1 y1 z1 H1 hI1 bo1 r10 r11
    refine lc_rng (fun j acc R' D' => ∃ (x y z : Int) (n' : Nat), R' = (b, bx x y z) :: R ∧ BoxOk n' x y z ∧ n' ≤ n + 1 + 21 * j ∧ Ex D D' ∧ acc.length = j ∧ ∀ v ∈ acc, ∃ q kp, NumAt D' v q kp) hI1 ⟨_, _, _, _, rfl, bo1, by omega, Ex.refl _, rfl, all_n⟩ (fun L j acc R' D' H' hj hI' p hl => ?_) (fun Ls acc R' D' H' hI' p hl => ?_)
    · obtain ⟨x2, y2, z2, n2, rfl, bo2, hn2, xq, hal, hacc⟩ := p
      wtm_at "sm"
      refine lnumbers_use hI'.swap bo2 (by omega) (fun pq q x3 y3 z3 n3 H3 D3 hI3 ex3 bo3 hn3 eq qok => ?_)
      wtm_at "sm"
      rename_i kp x4 y4 z4 H4 hI4 bo4 kp0 kp1 pt Ht Dt hIt xt et
      refine RAdd.tup (hIt.dat (xt _ _ eq)) (hIt.dat et) (fun z => nomatch z) (fun z => nomatch z) (small_ok (Nat.le_of_ble_eq_true rfl)) ?_
      wtm_at "sm"
      rename_i p5 H5 D5 hI5 x5 e5
      have xall := ex3.trans (xt.trans x5)
      refine le_mk (by first | exact hI5 | exact hI5.swap) ⟨_, _, _, _, rfl, bo4, by omega, xq.trans xall, by rw [List.length_append, hal]; rfl, fun v hv => ?_⟩ hl (by omega)
      rcases List.mem_append.mp hv with h | h
      · obtain ⟨q', kp', i⟩ := hacc v h
        exact ⟨q', kp', i.mono xall⟩
      · rw [List.mem_singleton.mp h]
        exact ⟨q, kp, p5, rfl, e5, qok, by omega⟩
    · obtain ⟨x2, y2, z2, n2, rfl, bo2, hn2, xq, hal, hacc⟩ := p
      obtain ⟨D3, hI3, x3, eLs⟩ := hI'.fr1
      have ew3 := (xq.trans x3) _ _ ew
      wtm_at "sm"
      rename_i fd Hf hIf r4 x4 y4 z4 H4 hI4 bo4 r40 r41
      refine for_rng (fun j σ R' D' => ∃ (cs : List (V × Crd)) (c5 c6 c7 : Option V) (x y z : Int) (n' : Nat), σ = [some (.ref b), some (.ref wl), some (.int by_), some (.ref Ls), some (.ref fd), c5, c6, c7] ∧ R' = (fd, .lst (cs.map (·.1))) :: (b, bx x y z) :: R ∧ BoxOk n' x y z ∧ n' ≤ n2 + 1 + 3 * j ∧ Ex D3 D' ∧ cs.length = j ∧ ∀ c ∈ cs, CrdAt D' by_ c.1 c.2) (by first | exact hI4 | exact hI4.swap) ⟨[], _, _, _, _, _, _, _, rfl, rfl, bo4, by omega, Ex.refl _, rfl, all_n⟩ (fun j σ R' D' H' hj hI' q => ?_) (fun σ R' D' H' hI' q => ?_)
      · obtain ⟨cs, c5, c6, c7, x5, y5, z5, n5, rfl, rfl, bo5, hn5, xq5, hcl, hcs⟩ := q
        have eLs5 := xq5 _ _ eLs
        have hcl2 : (cs.map (·.1)).length = j := by rw [List.length_map, hcl]
        have ew5 := xq5 _ _ ew3
        wtm_at "sm"
        rename_i at1 xa ya za Ha hIa boa at10 at11 mn mn0 mn1 mn2 wk xw yw zw Hw hIw bow wk0 wk1
        obtain ⟨v, hv⟩ : ∃ v, acc[at1.toNat]? = some v := ⟨_, List.getElem?_eq_getElem (by omega)⟩
        obtain ⟨q, kp, nq⟩ := hacc v (List.mem_of_getElem? hv)
        have x03 := x3.trans xq5
        refine RIx.l (hIw.dat eLs5) ((atI_ofI at10).trans hv) ?_
        wtm_at "sm"
        rename_i hd xh yh zh Hh hIh boh hd0 hd1 pt Ht Dt hIt xt et H9 hI9
        have hI10 : HI H9 ((fd, .lst ((cs ++ [((V.ref pt), (⟨at1, q, kp, 1 + wk, 1 + hd⟩ : Crd))]).map (·.1))) :: (b, bx xh yh zh) :: R) Dt := by
          rw [List.map_append]
          first | exact hI9 | exact hI9.swap
        refine ⟨_, _, hI10, _, _, _, _, _, _, _, _, rfl, rfl, boh, by omega, xq5.trans xt, by rw [List.length_append, hcl]; rfl, fun c hc => ?_⟩
        rcases List.mem_append.mp hc with h | h
        · exact (hcs c h).mono xt
        · rw [List.mem_singleton.mp h]
          exact ⟨pt, v, rfl, et, nq.mono (x03.trans xt), at10, by show at1 < 4; omega, by show 1 ≤ 1 + wk; omega, by show 1 + wk ≤ _; omega, by show 1 ≤ 1 + hd; omega, by show 1 + hd ≤ 1000; omega⟩
      · obtain ⟨cs, c5, c6, c7, x5, y5, z5, n5, rfl, rfl, bo5, hn5, xq5, hcl, hcs⟩ := q
        obtain ⟨DF, hF, xF, eF⟩ := hI'.fr1
        wtm_at "sm"
        exact go _ cs _ _ _ _ _ _ hF (xq.trans (x3.trans (xq5.trans xF))) bo5 (by omega) eF (by omega) (by omega) (fun c hc => (hcs c hc).mono xF)
/-- the row of a card -/
def rwOf (ys ks : List Str) (by_ : Int) (c : Crd) : Rw' := ⟨⟨ys.getD c.at_.toNat (Str.ofString ""), ks.getD c.kp.toNat (Str.ofString ""), c.q.n, c.q.k, c.q.b⟩, c.w + by_, c.h⟩
def spLRowsC (K : PySem.W.Frag) : Sp := fun vs H Q _ => ∃ (pc pn pk : Addr) (by_ by2 : Int) (cs : List (V × Crd)) (ys ks : List Str) (R : Cells) (D : Hp), vs = [.ref pc, .ref pn, .ref pk, .int by_] ∧ HI H R D ∧ D pc = some (.lst (cs.map (·.1))) ∧ cs.length ≤ 6 ∧ (∀ c ∈ cs, CrdAt D by2 c.1 c.2) ∧ 0 ≤ by_ ∧ by_ ≤ by2 ∧ by2 ≤ 51 ∧ D pn = some (.lst (ys.map V.str)) ∧ 4 ≤ ys.length ∧ (∀ y ∈ ys, Nm y) ∧ D pk = some (.lst (ks.map V.str)) ∧ 2 ≤ ks.length ∧ (∀ y ∈ ks, Nm y) ∧
  ∀ (p : Addr) (rs : List (Addr × Rw')) H' D', HI H' R D' → Ex D D' → D' p = some (.lst (rs.map fun r => .ref r.1)) → rs.map (·.2) = cs.map (fun c => rwOf ys ks by_ c.2) → (∀ r ∈ rs, IsRow K D' r.1 r.2) → Q (.ref p) H'
set_option maxHeartbeats 2000000 in
theorem ok_l_rows {P : Program} {w : World} {K : PySem.W.Frag} {mg : Str → Option Value} {base : Heap} (T : Tx K mg) : FnG P w K mg base 7 (a_l_rows K) ["cards", "names", "kins", "by"] (spLRowsC K) := by
  refine T.f_l_rows.ok sc_l_rows (fun vs H Q E h => ?_) (fun cdv A outer s H vs Q E hgu hr h => ⟨_, (pss_cons (ps_set (i := 4) sc_l_rows.nd rfl (Or.inl rfl) (pe_lstM pa_nil))
 (pss_cons (ps_for (passes_of rfl) rfl (pi_list (pv 0)) (pg_tup (by rfl) (pgs_cons (pg_name (i := 5) sc_l_rows.nd rfl (Or.inl rfl)) (pgs_cons (pg_name (i := 6) sc_l_rows.nd rfl (Or.inl rfl)) (pgs_cons (pg_name (i := 7) sc_l_rows.nd rfl (Or.inl rfl)) (pgs_cons (pg_name (i := 8) sc_l_rows.nd rfl (Or.inl rfl)) pgs_nil))))) (pss_cons (ps_set (i := 9) sc_l_rows.nd rfl (Or.inl rfl) (ge_makeN T.mk_Sort (ok_Sort_init T) hgu (hr.mono (by decide)) rfl T.g_Sort T.kb_Sort_init_6 (fun _ => pass_takes (takes_of rfl rfl rfl rfl)) (pa_cons (pe_ix ix_U (pv 1) (pv 5) (fun _ _ => rfl)) (pa_cons (pe_ix ix_U (pv 2) (pe_ix ix_U (pv 6) pe_int (fun _ _ => rfl)) (fun _ _ => rfl)) (pa_cons (pe_ix ix_U (pv 6) pe_int (fun _ _ => rfl)) (pa_cons (pe_ix ix_U (pv 6) pe_int (fun _ _ => rfl)) (pa_cons (pe_ix ix_U (pv 6) pe_int (fun _ _ => rfl)) pa_nil))))) pk_nil))
 (pss_one (ps_expr (pe_bm PySem.F.plainAttrs_list PySem.F.slot_list_append PySem.F.type_list_append mt_append (pv 4) (pa_cons (ge_meth (ge_makeN T.mk_Row (ok_Row_init T) hgu (hr.mono (by decide)) rfl T.g_Row T.kb_Row_init_4 (fun _ => pass_takes (takes_of rfl rfl rfl rfl)) (pa_cons (pv 9) (pa_cons (pv 7) (pa_cons (pv 8) pa_nil))) pk_nil) T.cl_Row T.m_Row_later (ok_Row_later T) hgu (hr.mono (by decide)) T.b_Row_later .nil (fun _ => pass_takes (takes_of rfl rfl rfl rfl)) (pa_cons (pv 3) pa_nil)) pa_nil))))))
 (pss_one (ps_ret (pv 4))))), ?_⟩)
  · obtain ⟨pc, pn, pk, by_, by2, cs, ys, ks, R, D, rfl, _⟩ := h
    rfl
  · obtain ⟨pc, pn, pk, by_, by2, cs, ys, ks, R, D, rfl, hI, ec, cl, hcs, b0, b1, b2, en, ly, hy, ek, lk, hk, go⟩ := h
    wtm_at "go"
    wtm_at "sm"
    rename_i fd Hf hIf
    refine for_lst (xs := cs.map (·.1)) (fun j σ R' D' => ∃ (rs : List (Addr × Rw')) (c5 c6 c7 c8 c9 : Option V), σ = [some (.ref pc), some (.ref pn), some (.ref pk), some (.int by_), some (.ref fd), c5, c6, c7, c8, c9] ∧ R' = (fd, .lst (rs.map fun r => .ref r.1)) :: R ∧ Ex D D' ∧ rs.map (·.2) = (cs.take j).map (fun c => rwOf ys ks by_ c.2) ∧ ∀ r ∈ rs, IsRow K D' r.1 r.2) hIf ⟨[], _, _, _, _, _, rfl, rfl, Ex.refl _, rfl, all_n⟩ (fun j σ R' D' q => ?_) (fun j v σ R' D' H' hv hI' q => ?_) (fun σ R' D' H' hI' q => ?_)
    · obtain ⟨_, _, _, _, _, _, _, _, q, _⟩ := q
      exact q _ _ ec
    · obtain ⟨rs, c5, c6, c7, c8, c9, rfl, rfl, xq, hrs, hr1⟩ := q
      rw [List.getElem?_map] at hv
      obtain ⟨c, hcj, rfl⟩ := Option.map_eq_some_iff.mp hv
      have hj : j < cs.length := (List.getElem?_eq_some_iff.mp hcj).1
      obtain ⟨pcd, qv, ecv, ecd, ⟨pq, rfl, epq, qok, kp01⟩, at0, at4, w0, w1, h0, h1⟩ := (hcs c (List.mem_of_getElem? hcj)).mono xq
      have enq := xq _ _ en
      have ekq := xq _ _ ek
      have rl : (rs.map fun r => V.ref r.1).length = j := by
        have := congrArg List.length hrs
        rw [List.length_map, List.length_map, List.length_take] at this
        rw [List.length_map]
        omega
      rw [ecv]
      have geN : ys[c.2.at_.toNat]? = some (ys.getD c.2.at_.toNat (Str.ofString "")) := by
        have hlt : c.2.at_.toNat < ys.length := by omega
        rw [List.getD_eq_getElem?_getD, List.getElem?_eq_getElem hlt]
        rfl
      have geK : ks[c.2.kp.toNat]? = some (ks.getD c.2.kp.toNat (Str.ofString "")) := by
        have hlt : c.2.kp.toNat < ks.length := by omega
        rw [List.getD_eq_getElem?_getD, List.getElem?_eq_getElem hlt]
        rfl
      have nmN := hy _ (List.mem_of_getElem? geN)
      have nmK := hk _ (List.mem_of_getElem? geK)
      wtm_at "sm"
      refine RIx.l (hI'.dat enq) (atI_mapI at0 geN) ?_
      wtm_at "sm"
      refine RIx.l (hI'.dat ekq) (atI_mapI (by omega) geK) ?_
      wtm_at "sm"
      refine make_good (s := (rwOf ys ks by_ c.2).s) (by assumption) ⟨nmN, nmK, qok.1, qok.2.1, qok.2.2.1, qok.2.2.2.1, qok.2.2.2.2.1, qok.2.2.2.2.2⟩ (fun H3 D3 hI3 x3 is3 => ?_)
      wtm_at "sm"
      refine make_row (by assumption) is3 w0 (by omega) h0 h1 (fun H4 D4 hI4 x4 ir4 => ?_)
      obtain ⟨_, dr4, sa4, er4, _⟩ := id ir4
      wtm_at "sm"
      refine later_use hI4 ir4 b0 (by omega) (by show c.2.w + by_ ≤ 52; omega) (fun bb H5 D5 hI5 x5 ir5 => ?_)
      wtm_at "sm"
      rename_i H6 hI6
      have xall := x3.trans (x4.trans x5)
      refine ⟨_, _, hI6, rs ++ [(bb, rwOf ys ks by_ c.2)], _, _, _, _, _, rfl, by rw [List.map_append]; rfl, xq.trans xall, by rw [List.map_append, hrs, take_more hcj, List.map_append]; rfl, fun r hr => ?_⟩
      rcases List.mem_append.mp hr with h | h
      · exact (hr1 r h).mono xall
      · rw [List.mem_singleton.mp h]
        exact ir5
    · obtain ⟨rs, c5, c6, c7, c8, c9, rfl, rfl, xq, hrs, hr1⟩ := q
      rw [List.length_map, List.take_length] at hrs
      obtain ⟨DF, hF, xF, eF⟩ := hI'.fr1
      wtm_at "sm"
      exact go _ rs _ _ hF (xq.trans xF) eF hrs (fun r hr => (hr1 r hr).mono xF)
/-- what is told of a row, as data -/
def oD (o : Option Int) : PyData := match o with
  | none => .none
  | some i => .int i
theorem oD_rep {H : Hp} {o : Option Int} : Rep H (oV o) (oD o) := by
  cases o with
  | none => exact .non
  | some i => exact .int i
def tellD (f : Wf) (n : Int) (q : Num) (w : Int) : PyData := .list [oD (ripeO f n w q.n), oD (lastO f n w q.n q.k), oD (lostO f n w q.n q.k q.b), cD (cutO f n w q.n q.k q.b)]
def spLToldC (K : PySem.W.Frag) : Sp := fun vs H Q _ => ∃ (p y : Addr) (rs : List (Addr × Rw')) (f : Wf) (n : Int) (R : Cells) (D : Hp), vs = [.ref p, .ref y] ∧ HI H R D ∧ D p = some (.lst (rs.map fun r => .ref r.1)) ∧ rs.length ≤ 6 ∧ (∀ r ∈ rs, IsRow K D r.1 r.2) ∧ YrAt K R D y f n ∧
  ∀ v H' D', HI H' R D' → Ex D D' → Rep D' v (.list (rs.map fun r => tellD f n ⟨r.2.s.n, r.2.s.k, r.2.s.b⟩ r.2.w)) → Q v H'
set_option maxHeartbeats 1000000 in
theorem ok_l_told {P : Program} {w : World} {K : PySem.W.Frag} {mg : Str → Option Value} {base : Heap} (T : Tx K mg) : FnG P w K mg base 11 (a_l_told K) ["rows", "year"] (spLToldC K) := by
  refine T.f_l_told.ok sc_l_told (fun vs H Q E h => ?_) (fun cdv A outer s H vs Q E hgu hr h => ⟨_, (pss_one (ps_ret (pe_lc (own := [("row", 2)]) rfl sc_l_told.nd (pi_list (pv 0)) (blkOk_by (own := [("row", 2)]) (N := ["rows", "year", "row"]) (sc := defScope s_l_told) (by decide +kernel)) (fun _ _ _ _ _ => (pg_name (i := 2) sc_l_told.nd rfl (by first | exact Or.inl rfl | exact Or.inr rfl))) (fun _ _ _ _ _ => pts_nil) (fun _ _ _ _ _ => (pe_lst (pa_cons (ge_call (ok_ripe_week T) hgu (hr.mono (by decide)) rfl T.g_ripe_week T.k_ripe_week T.b_ripe_week .nil (fun _ => pass_none) (pa_cons (pv 2) (pa_cons (pv 1) pa_nil))) (pa_cons (ge_call (ok_last_stand T) hgu (hr.mono (by decide)) rfl T.g_last_stand T.k_last_stand T.b_last_stand .nil (fun _ => pass_none) (pa_cons (pv 2) (pa_cons (pv 1) pa_nil))) (pa_cons (ge_call (ok_lost_week T) hgu (hr.mono (by decide)) rfl T.g_lost_week T.k_lost_week T.b_lost_week .nil (fun _ => pass_none) (pa_cons (pv 2) (pa_cons (pv 1) pa_nil))) (pa_cons (ge_call (ok_ready T) hgu (hr.mono (by decide)) rfl T.g_ready T.k_ready T.b_ready .nil (fun _ => pass_none) (pa_cons (pv 2) (pa_cons (pv 1) pa_nil))) pa_nil))))))))), ?_⟩)
  · obtain ⟨p, y, rs, f, n, R, D, rfl, _⟩ := h
    rfl
  · obtain ⟨p, y, rs, f, n, R, D, rfl, hI, ep, rl, hrs, yr, go⟩ := h
    wtm_at "go"
    wtm_at "sm"
    refine lc_lst (xs := rs.map fun r => V.ref r.1) (fun j acc R' D' => R' = R ∧ Ex D D' ∧ acc.length = j ∧ RepL D' acc ((rs.take j).map fun r => tellD f n ⟨r.2.s.n, r.2.s.k, r.2.s.b⟩ r.2.w)) hI ⟨rfl, Ex.refl _, rfl, .nil⟩ (fun j acc R' D' q => ?_) (fun L j acc v R' D' H' hv hI' q hl => ?_) (fun L acc R' D' H' hI' q hl => ?_)
    · exact q.2.1 _ _ ep
    · obtain ⟨rfl, xq, hal, hrep⟩ := q
      rw [List.getElem?_map] at hv
      obtain ⟨r, hrj, rfl⟩ := Option.map_eq_some_iff.mp hv
      have hj : j < rs.length := (List.getElem?_eq_some_iff.mp hrj).1
      have ir := (hrs r (List.mem_of_getElem? hrj)).mono xq
      have yrq := (yr.mono xq).cell (c := (L, HO.lst acc))
      wtm_at "sm"
      refine ripe_use hI' ir yrq (fun H1 D1 hI1 x1 => ?_)
      wtm_at "sm"
      refine ripe_use hI1 (ir.mono x1) (yrq.mono x1) (fun H2 D2 hI2 x2 => ?_)
      wtm_at "sm"
      refine ripe_use hI2 (ir.mono (x1.trans x2)) (yrq.mono (x1.trans x2)) (fun H3 D3 hI3 x3 => ?_)
      wtm_at "sm"
      refine ready_use hI3 (ir.mono (x1.trans (x2.trans x3))) (yrq.mono (x1.trans (x2.trans x3))) (fun v H4 D4 hI4 x4 cv => ?_)
      wtm_at "sm"
      rename_i p5 H5 D5 hI5 x5 e5
      have xall := x1.trans (x2.trans (x3.trans (x4.trans x5)))
      refine le_mk hI5 ⟨rfl, xq.trans xall, by rw [List.length_append, hal]; rfl, ?_⟩ hl (by omega)
      rw [take_more hrj, List.map_append]
      exact (hrep.mono xall).snoc (.lst e5 (.cons oD_rep (.cons oD_rep (.cons oD_rep (.cons ((cv.mono x5).rep) .nil)))))
    · obtain ⟨rfl, xq, hal, hrep⟩ := q
      rw [List.length_map, List.take_length] at hrep
      obtain ⟨DF, hF, xF, eF⟩ := hI'.fr1
      exact go _ _ _ hF (xq.trans xF) (.lst eF (hrep.mono xF))
def spLOwn : Sp := fun vs H Q _ => ∃ (pc wl : Addr) (by2 : Int) (cs : List (V × Crd)) (xs : List V) (ws : List (Int × Int)) (R : Cells) (D : Hp), vs = [.ref pc, .ref wl] ∧ HI H R D ∧ D pc = some (.lst (cs.map (·.1))) ∧ cs.length ≤ 6 ∧ 0 ≤ by2 ∧ (∀ c ∈ cs, CrdAt D by2 c.1 c.2) ∧ D wl = some (.lst xs) ∧ PairsL D xs ws ∧ ws.length ≤ 52 ∧
  ∀ p vs H' D', HI H' R D' → Ex D D' → D' p = some (.lst vs) → RepL D' vs (cs.map fun c => tellD (FW ws) ws.length c.2.q c.2.w) → Q (.ref p) H'
set_option maxHeartbeats 2000000 in
theorem ok_l_own {P : Program} {w : World} {K : PySem.W.Frag} {mg : Str → Option Value} {base : Heap} (T : Tx K mg) : FnG P w K mg base 5 (a_l_own K) ["cards", "weeks"] spLOwn := by
  refine T.f_l_own.ok sc_l_own (fun vs H Q E h => ?_) (fun cdv A outer s H vs Q E hgu hr h => ⟨_, (pss_cons (ps_set (i := 2) sc_l_own.nd rfl (Or.inl rfl) (pe_lstM pa_nil))
 (pss_cons (ps_for (passes_of rfl) rfl (pi_list (pv 0)) (pg_tup (by rfl) (pgs_cons (pg_name (i := 3) sc_l_own.nd rfl (Or.inl rfl)) (pgs_cons (pg_name (i := 4) sc_l_own.nd rfl (Or.inl rfl)) (pgs_cons (pg_name (i := 5) sc_l_own.nd rfl (Or.inl rfl)) (pgs_cons (pg_name (i := 6) sc_l_own.nd rfl (Or.inl rfl)) pgs_nil))))) (pss_cons (ps_set (i := 7) sc_l_own.nd rfl (Or.inl rfl) (pe_op op_addU (pe_slice sl_Tu (pv 4) po_none (po_some pe_int)) (pe_tup (pa_cons (pv 5) pa_nil))))
 (pss_one (ps_expr (pe_bm PySem.F.plainAttrs_list PySem.F.slot_list_append PySem.F.type_list_append mt_append (pv 2) (pa_cons (pe_lst (pa_cons (ge_call (ok_l_ripe T) hgu (hr.mono (by decide)) rfl T.g_l_ripe T.k_l_ripe T.b_l_ripe .nil (fun _ => pass_takes (takes_of rfl rfl rfl rfl)) (pa_cons (pv 7) (pa_cons (pv 1) pa_nil))) (pa_cons (ge_call (ok_l_last T) hgu (hr.mono (by decide)) rfl T.g_l_last T.k_l_last T.b_l_last .nil (fun _ => pass_takes (takes_of rfl rfl rfl rfl)) (pa_cons (pv 7) (pa_cons (pv 1) pa_nil))) (pa_cons (ge_call (ok_l_lost T) hgu (hr.mono (by decide)) rfl T.g_l_lost T.k_l_lost T.b_l_lost .nil (fun _ => pass_takes (takes_of rfl rfl rfl rfl)) (pa_cons (pv 7) (pa_cons (pv 1) pa_nil))) (pa_cons (ge_call (ok_l_cut T) hgu (hr.mono (by decide)) rfl T.g_l_cut T.k_l_cut T.b_l_cut .nil (fun _ => pass_takes (takes_of rfl rfl rfl rfl)) (pa_cons (pv 7) (pa_cons (pv 1) pa_nil))) pa_nil))))) pa_nil))))))
 (pss_one (ps_ret (pv 2))))), ?_⟩)
  · obtain ⟨pc, wl, by2, cs, xs, ws, R, D, rfl, _⟩ := h
    rfl
  · obtain ⟨pc, wl, by2, cs, xs, ws, R, D, rfl, hI, ec, cl, b0, hcs, ew, pl, l52, go⟩ := h
    wtm_at "go"
    wtm_at "sm"
    rename_i fd Hf hIf
    refine for_lst (xs := cs.map (·.1)) (fun j σ R' D' => ∃ (vs : List V) (c3 c4 c5 c6 c7 : Option V), σ = [some (.ref pc), some (.ref wl), some (.ref fd), c3, c4, c5, c6, c7] ∧ R' = (fd, .lst vs) :: R ∧ Ex D D' ∧ vs.length = j ∧ RepL D' vs ((cs.take j).map fun c => tellD (FW ws) ws.length c.2.q c.2.w)) hIf ⟨[], _, _, _, _, _, rfl, rfl, Ex.refl _, rfl, .nil⟩ (fun j σ R' D' q => ?_) (fun j v σ R' D' H' hv hI' q => ?_) (fun σ R' D' H' hI' q => ?_)
    · obtain ⟨_, _, _, _, _, _, _, _, q, _⟩ := q
      exact q _ _ ec
    · obtain ⟨vs, c3, c4, c5, c6, c7, rfl, rfl, xq, hvl, hrep⟩ := q
      rw [List.getElem?_map] at hv
      obtain ⟨c, hcj, rfl⟩ := Option.map_eq_some_iff.mp hv
      have hj : j < cs.length := (List.getElem?_eq_some_iff.mp hcj).1
      obtain ⟨pcd, qv, ecv, ecd, ⟨pq, rfl, epq, qok, kp01⟩, at0, at4, w0, w1, h0, h1⟩ := (hcs c (List.mem_of_getElem? hcj)).mono xq
      rw [ecv]
      wtm_at "sm"
      refine RSlTu.tup (hI'.dat epq) (fun h => absurd h.2 (by show ¬ (3 : Nat) = 4; decide)) ?_
      wtm_at "sm"
      rename_i p1 H1 D1 hI1 x1 e1 p2 H2 D2 hI2 x2 e2
      refine RAdd.tup (hI2.dat (x2 _ _ e1)) (hI2.dat e2) (fun z => nomatch z) (fun z => nomatch z) (small_ok (Nat.le_of_ble_eq_true rfl)) ?_
      wtm_at "sm"
      rename_i p3 H3 D3 hI3 x3 e3
      have x03 := xq.trans (x1.trans (x2.trans x3))
      have er : RowT D3 p3 c.2.q.n c.2.q.k c.2.q.b c.2.w := e3
      refine lripe_use hI3 er (x03 _ _ ew) (pl.mono x03) l52 w0 (by omega) qok.2.2.1 qok.2.2.2.1 (fun H4 D4 hI4 x4 => ?_)
      wtm_at "sm"
      refine lripe_use hI4 (x4 _ _ er) ((x03.trans x4) _ _ ew) (pl.mono (x03.trans x4)) l52 w0 (by omega) qok.2.2.1 qok.2.2.2.1 (fun H5 D5 hI5 x5 => ?_)
      wtm_at "sm"
      have x35 := x4.trans x5
      refine lripe_use hI5 (x35 _ _ er) ((x03.trans x35) _ _ ew) (pl.mono (x03.trans x35)) l52 w0 (by omega) qok.2.2.1 qok.2.2.2.1 (fun H6 D6 hI6 x6 => ?_)
      wtm_at "sm"
      have x36 := x35.trans x6
      refine lcut_use hI6 (x36 _ _ er) ((x03.trans x36) _ _ ew) (pl.mono (x03.trans x36)) l52 w0 (by omega) qok.2.2.1 qok.2.2.2.1 (fun v H7 D7 hI7 x7 cv => ?_)
      wtm_at "sm"
      rename_i p8 H8 D8 hI8 x8 e8 H9 hI9
      have xall : Ex D' D8 := x1.trans (x2.trans (x3.trans (x36.trans (x7.trans x8))))
      refine ⟨_, _, hI9, vs ++ [.ref p8], _, _, _, _, _, rfl, rfl, xq.trans xall, by rw [List.length_append, hvl]; rfl, ?_⟩
      rw [take_more hcj, List.map_append]
      exact (hrep.mono xall).snoc (.lst e8 (.cons oD_rep (.cons oD_rep (.cons oD_rep (.cons ((cv.mono x8).rep) .nil)))))
    · obtain ⟨vs, c3, c4, c5, c6, c7, rfl, rfl, xq, hvl, hrep⟩ := q
      rw [List.length_map, List.take_length] at hrep
      obtain ⟨DF, hF, xF, eF⟩ := hI'.fr1
      wtm_at "sm"
      exact go _ vs _ _ hF (xq.trans xF) eF (hrep.mono xF)
/-- all words of a row, as data -/
def statD (f : Wf) (n : Nat) (r : Rw') : PyData := .list (((List.range n).map fun (j : Nat) => wname (wcd f n r.w r.s.n r.s.k r.s.b ((j : Int) + 1))).map PyData.str)
def spLStates (K : PySem.W.Frag) : Sp := fun vs H Q _ => ∃ (p y : Addr) (rs : List (Addr × Rw')) (f : Wf) (n : Nat) (R : Cells) (D : Hp), vs = [.ref p, .ref y] ∧ HI H R D ∧ D p = some (.lst (rs.map fun r => .ref r.1)) ∧ rs.length ≤ 6 ∧ (∀ r ∈ rs, IsRow K D r.1 r.2) ∧ YrAt K R D y f n ∧ n ≤ 52 ∧
  ∀ v H' D', HI H' R D' → Ex D D' → Rep D' v (.list (rs.map fun r => statD f n r.2)) → Q v H'
set_option maxHeartbeats 1000000 in
theorem ok_l_states {P : Program} {w : World} {K : PySem.W.Frag} {mg : Str → Option Value} {base : Heap} (T : Tx K mg) : FnG P w K mg base 10 (a_l_states K) ["rows", "year"] (spLStates K) := by
  refine T.f_l_states.ok sc_l_states (fun vs H Q E h => ?_) (fun cdv A outer s H vs Q E hgu hr h => ⟨_, (pss_one (ps_ret (pe_lc (own := [("row", 2)]) rfl sc_l_states.nd (pi_list (pv 0)) (blkOk_by (own := [("row", 2)]) (N := ["rows", "year", "row", "week"]) (sc := defScope s_l_states) (by decide +kernel)) (fun _ _ _ _ _ => (pg_name (i := 2) sc_l_states.nd rfl (by first | exact Or.inl rfl | exact Or.inr rfl))) (fun _ _ _ _ _ => pts_nil) (fun _ _ _ _ _ => (pe_lc (own := [("week", 3)]) rfl sc_l_states.nd (pi_range2 (by rfl) T.n_range (pa_cons pe_int (pa_cons (pe_op op_addU (pe_callB (call_lenO T.m_Year_len.at_ T.m_Year_len.fn (ok_Year_len T) T.b_Year_len hgu (hr.mono (by decide))) (by rfl) T.n_len boot_len (pa_cons (pv 1) pa_nil)) pe_int) pa_nil))) (blkOk_by (own := [("week", 3)]) (N := ["rows", "year", "row", "week"]) (by rfl)) (fun _ _ _ _ _ => (pg_name (i := 3) sc_l_states.nd rfl (by first | exact Or.inl rfl | exact Or.inr rfl))) (fun _ _ _ _ _ => pts_nil) (fun _ _ _ _ _ => (ge_call (ok_state T) hgu (hr.mono (by decide)) rfl T.g_state T.k_state T.b_state .nil (fun _ => pass_none) (pa_cons (pv 2) (pa_cons (pv 1) (pa_cons (pv 3) pa_nil)))))))))), ?_⟩)
  · obtain ⟨p, y, rs, f, n, R, D, rfl, _⟩ := h
    rfl
  · obtain ⟨p, y, rs, f, n, R, D, rfl, hI, ep, rl, hrs, yr, n52, go⟩ := h
    obtain ⟨nl, td, dy, ey⟩ := yr.ins
    wtm_at "go"
    wtm_at "sm"
    refine lc_lst (xs := rs.map fun r => V.ref r.1) (fun j acc R' D' => R' = R ∧ Ex D D' ∧ acc.length = j ∧ RepL D' acc ((rs.take j).map fun r => statD f n r.2)) hI ⟨rfl, Ex.refl _, rfl, .nil⟩ (fun j acc R' D' q => ?_) (fun L j acc v R' D' H' hv hI' q hl => ?_) (fun L acc R' D' H' hI' q hl => ?_)
    · exact q.2.1 _ _ ep
    · obtain ⟨rfl, xq, hal, hrep⟩ := q
      rw [List.getElem?_map] at hv
      obtain ⟨r, hrj, rfl⟩ := Option.map_eq_some_iff.mp hv
      have hj : j < rs.length := (List.getElem?_eq_some_iff.mp hrj).1
      have ir := (hrs r (List.mem_of_getElem? hrj)).mono xq
      have yrq := (yr.mono xq).cell (c := (L, HO.lst acc))
      have eyq := xq _ _ ey
      wtm_at "sm"
      refine ylen_use hI' yrq ?_
      wtm_at "sm"
      refine lc_rng (fun w acc2 R2 D2 => R2 = (L, HO.lst acc) :: R' ∧ Ex D' D2 ∧ acc2 = ((List.range w).map fun (q : Nat) => wname (wcd f n r.2.w r.2.s.n r.2.s.k r.2.s.b ((q : Int) + 1))).map V.str) hI' ⟨rfl, Ex.refl _, rfl⟩ (fun L2 w acc2 R2 D2 H2 hw hI2 q2 hl2 => ?_) (fun L2 acc2 R2 D2 H2 hI2 q2 hl2 => ?_)
      · obtain ⟨rfl, xq2, rfl⟩ := q2
        wtm_at "sm"
        refine state_use hI2 (ir.mono xq2) ((yrq.mono xq2).cell) (by omega) (by omega) (fun H4 D4 hI4 x4 => ?_)
        refine le_mk hI4 ⟨rfl, xq2.trans x4, ?_⟩ hl2 (by omega)
        rw [List.range_succ, List.map_append, List.map_append, show (1 : Int) + (w : Int) = (w : Int) + 1 by omega]
        unfold Rw'.word
        rw [wordO_wcd]
        rfl
      · obtain ⟨rfl, xq2, rfl⟩ := q2
        obtain ⟨DF, hF, xF, eF⟩ := hI2.fr1
        have xall := xq2.trans xF
        refine le_mk hF ⟨rfl, xq.trans xall, by rw [List.length_append, hal]; rfl, ?_⟩ hl (by omega)
        rw [take_more hrj, List.map_append]
        refine (hrep.mono xall).snoc ?_
        rw [show ((n : Int) + 1 - 1).toNat = n by omega] at eF
        exact .lst eF (rep_strs _)
    · obtain ⟨rfl, xq, hal, hrep⟩ := q
      rw [List.length_map, List.take_length] at hrep
      obtain ⟨DF, hF, xF, eF⟩ := hI'.fr1
      exact go _ _ _ hF (xq.trans xF) (.lst eF (hrep.mono xF))
theorem mayF_lat {t u t' u' : Sta} {by_ x : Int} {k0 k1 l0 l1 : Str} (nn : Bool) (dk : k0 ≠ k1) (dl : l0 ≠ l1) (ht : t'.r.w = t.r.w + by_) (hu : u'.u = u.u + by_) (kt : (t.r.s.kn = k0 ∧ t'.r.s.kn = l0) ∨ (t.r.s.kn = k1 ∧ t'.r.s.kn = l1)) (ku : (u.r.s.kn = k0 ∧ u'.r.s.kn = l0) ∨ (u.r.s.kn = k1 ∧ u'.r.s.kn = l1)) :
    mayF t' u' (if nn = true then none else some [(l0, x), (l1, 0)]) = mayF t u (if nn = true then none else some [(k0, x), (k1, 0)]) := by
  have ef : t'.r.w - u'.u - 1 = t.r.w - u.u - 1 := by omega
  have ek : (t'.r.s.kn ≠ u'.r.s.kn) ↔ (t.r.s.kn ≠ u.r.s.kn) := by
    rcases kt with ⟨a, b⟩ | ⟨a, b⟩ <;> rcases ku with ⟨c, d⟩ | ⟨c, d⟩ <;> rw [a, b, c, d]
    · exact ⟨fun h => absurd rfl h, fun h => absurd rfl h⟩
    · exact ⟨fun _ => dk, fun _ => dl⟩
    · exact ⟨fun _ h => dk h.symm, fun _ h => dl h.symm⟩
    · exact ⟨fun h => absurd rfl h, fun h => absurd rfl h⟩
  have el : List.lookup t'.r.s.kn [(l0, x), (l1, (0 : Int))] = List.lookup t.r.s.kn [(k0, x), (k1, (0 : Int))] := by
    rcases kt with ⟨a, b⟩ | ⟨a, b⟩ <;> rw [a, b]
    · simp [List.lookup]
    · have e1 : (l1 == l0) = false := by simp [Ne.symm dl]
      have e2 : (k1 == k0) = false := by simp [Ne.symm dk]
      simp [List.lookup, e1, e2]
  unfold mayF
  rw [ef]
  by_cases h : t.r.w - u.u - 1 < 0 ∨ t.r.s.kn ≠ u.r.s.kn
  · rw [if_pos h, if_pos (h.imp id ek.mpr)]
  · rw [if_neg h, if_neg fun z => h (z.imp id ek.mp)]
    cases nn with
    | true => rfl
    | false =>
      show (match List.lookup t'.r.s.kn [(l0, x), (l1, (0 : Int))] with | none => false | some x => decide (x ≤ t.r.w - u.u - 1)) = (match List.lookup t.r.s.kn [(k0, x), (k1, (0 : Int))] with | none => false | some x => decide (x ≤ t.r.w - u.u - 1))
      rw [el]
def stT (r : Rw') (by_ e more : Int) : Sta := ⟨r, min (52 - by_) (r.w - more + e) + more⟩
def roO (o : Option Int) (m0 m1 : Str) : Option (List (Str × Int)) := if o.isNone = true then none else some [(m0, o.getD 0), (m1, 0)]
theorem atI_neg1 {α β : Type} {f : α → β} {xs : List α} {x : α} (l : 1 ≤ xs.length) (h : xs[xs.length - 1]? = some x) : atI (xs.map f) (-1) = some (f x) := by
  obtain ⟨cs, cc, rfl⟩ : ∃ cs cc, xs = cs ++ [cc] := ⟨xs.dropLast, xs.getLast (by intro z; subst z; simp at l), (List.dropLast_concat_getLast _).symm⟩
  have : cc = x := by simpa using h
  rw [← this]
  exact atI_lastM
theorem if_joinV {b : Bool} {ta tb : TE} {σ : L2.St} {H : Hp} {Q : VK} {P : V → Hp → Prop} (key : ∀ v H', P v H' → Q v H') (h1 : ∀ Q' : VK, (∀ v H', P v H' → Q' v H') → b = true → ta σ H Q') (h2 : ∀ Q' : VK, (∀ v H', P v H' → Q' v H') → b = false → tb σ H Q') : if b = true then ta σ H Q else tb σ H Q := by
  cases b with
  | true => exact h1 Q key rfl
  | false => exact h2 Q key rfl
def spLStays (K : PySem.W.Frag) : Sp := fun vs H Q _ => ∃ (b pf ps pk pk0 pk1 : Addr) (by_ : Int) (fs ss : List (Addr × Rw')) (k0 k1 l0 l1 : Str) (R : Cells) (D : Hp) (x y z : Int) (n : Nat), vs = [.ref b, .ref pf, .ref ps, .ref pk, .int by_] ∧ HI H ((b, bx x y z) :: R) D ∧ BoxOk n x y z ∧ n + 100 < 1000000 ∧ D pf = some (.lst (fs.map fun r => .ref r.1)) ∧ D ps = some (.lst (ss.map fun r => .ref r.1)) ∧ 1 ≤ fs.length ∧ fs.length ≤ 6 ∧
  (∀ r ∈ fs, IsRow K D r.1 r.2 ∧ r.2.w ≤ 52 - by_) ∧ (∀ r ∈ ss, IsRow K D r.1 r.2) ∧ ss.length = fs.length ∧ 0 ≤ by_ ∧ by_ ≤ 51 ∧ D pk = some (.lst [.ref pk0, .ref pk1]) ∧ D pk0 = some (.lst [.str k0, .str k1]) ∧ D pk1 = some (.lst [.str l0, .str l1]) ∧ Nm k0 ∧ Nm k1 ∧ Nm l0 ∧ Nm l1 ∧ k0 ≠ k1 ∧ l0 ≠ l1 ∧
  (∀ j : Nat, ∀ r s, fs[j]? = some r → ss[j]? = some s → s.2.w = r.2.w + by_ ∧ s.2.h = r.2.h ∧ ((r.2.s.kn = k0 ∧ s.2.s.kn = l0) ∨ (r.2.s.kn = k1 ∧ s.2.s.kn = l1))) ∧
  ∀ H' D', HI H' R D' → Ex D D' → Q (.bl true) H'
set_option maxHeartbeats 2000000 in
theorem ok_l_stays_right {P : Program} {w : World} {K : PySem.W.Frag} {mg : Str → Option Value} {base : Heap} (T : Tx K mg) : FnG P w K mg base 6 (a_l_stays_right K) ["box", "first", "second", "kins", "by"] (spLStays K) := by
  refine T.f_l_stays_right.ok sc_l_stays_right (fun vs H Q E h => ?_) (fun cdv A outer s H vs Q E hgu hr h => ⟨_, (pss_cons (ps_set (i := 5) sc_l_stays_right.nd rfl (Or.inl rfl) (pe_lst (pa_cons (pe_op op_addU pe_int (ge_call (ok_l_take T) hgu (hr.mono (by decide)) rfl T.g_l_take T.k_l_take T.b_l_take .nil (fun _ => pass_takes (takes_of rfl rfl rfl rfl)) (pa_cons (pv 0) (pa_cons pe_int pa_nil)))) (pa_cons (pe_op op_addU pe_int (ge_call (ok_l_take T) hgu (hr.mono (by decide)) rfl T.g_l_take T.k_l_take T.b_l_take .nil (fun _ => pass_takes (takes_of rfl rfl rfl rfl)) (pa_cons (pv 0) (pa_cons pe_int pa_nil)))) pa_nil))))
 (pss_cons (ps_set (i := 6) sc_l_stays_right.nd rfl (Or.inl rfl) (pe_ix ix_U (pe_lst (pa_cons pe_non (pa_cons (ge_call (ok_l_take T) hgu (hr.mono (by decide)) rfl T.g_l_take T.k_l_take T.b_l_take .nil (fun _ => pass_takes (takes_of rfl rfl rfl rfl)) (pa_cons (pv 0) (pa_cons pe_int pa_nil))) pa_nil))) (ge_call (ok_l_take T) hgu (hr.mono (by decide)) rfl T.g_l_take T.k_l_take T.b_l_take .nil (fun _ => pass_takes (takes_of rfl rfl rfl rfl)) (pa_cons (pv 0) (pa_cons pe_int pa_nil))) (fun _ _ => rfl)))
 (pss_cons (ps_set (i := 7) sc_l_stays_right.nd rfl (Or.inl rfl) (pe_lstM pa_nil))
 (pss_cons (ps_for (passes_of rfl) rfl (pi_list (pe_lst (pa_cons (pe_tup (pa_cons (pv 1) (pa_cons (pe_ix ix_U (pv 3) pe_int (fun _ _ => rfl)) (pa_cons pe_int pa_nil)))) (pa_cons (pe_tup (pa_cons (pv 2) (pa_cons (pe_ix ix_U (pv 3) pe_int (fun _ _ => rfl)) (pa_cons (pv 4) pa_nil)))) pa_nil)))) (pg_tup (by rfl) (pgs_cons (pg_name (i := 8) sc_l_stays_right.nd rfl (Or.inl rfl)) (pgs_cons (pg_name (i := 9) sc_l_stays_right.nd rfl (Or.inl rfl)) (pgs_cons (pg_name (i := 10) sc_l_stays_right.nd rfl (Or.inl rfl)) pgs_nil)))) (pss_cons (ps_set (i := 11) sc_l_stays_right.nd rfl (Or.inl rfl) (ge_makeN T.mk_Stay (ok_Stay_init T) hgu (hr.mono (by decide)) rfl T.g_Stay T.kb_Stay_init_3 (fun _ => pass_takes (takes_of rfl rfl rfl rfl)) (pa_cons (pe_ix ix_U (pv 8) pe_int (fun _ _ => rfl)) (pa_cons (pe_op op_addU (pe_callB (call_minU rfl) (by rfl) T.n_min boot_min (pa_cons (pe_op op_sub pe_int (pv 4)) (pa_cons (pe_op op_addU (pe_op op_sub (ge_meth0 (pe_ix ix_U (pv 8) pe_int (fun _ _ => rfl)) T.cl_Row T.m_Row_week (ok_Row_week T) hgu (hr.mono (by decide)) T.b_Row_week .nil (fun _ => pass_takes (takes_of rfl rfl rfl rfl))) (pv 10)) (pe_ix ix_U (pv 5) pe_int (fun _ _ => rfl))) pa_nil))) (pv 10)) pa_nil)) pk_nil))
 (pss_cons (ps_set (i := 12) sc_l_stays_right.nd rfl (Or.inl rfl) (ge_makeN T.mk_Stay (ok_Stay_init T) hgu (hr.mono (by decide)) rfl T.g_Stay T.kb_Stay_init_3 (fun _ => pass_takes (takes_of rfl rfl rfl rfl)) (pa_cons (pe_ix ix_U (pv 8) (pe_un un_neg pe_int) (fun _ _ => rfl)) (pa_cons (pe_op op_addU (pe_callB (call_minU rfl) (by rfl) T.n_min boot_min (pa_cons (pe_op op_sub pe_int (pv 4)) (pa_cons (pe_op op_addU (pe_op op_sub (ge_meth0 (pe_ix ix_U (pv 8) (pe_un un_neg pe_int) (fun _ _ => rfl)) T.cl_Row T.m_Row_week (ok_Row_week T) hgu (hr.mono (by decide)) T.b_Row_week .nil (fun _ => pass_takes (takes_of rfl rfl rfl rfl))) (pv 10)) (pe_ix ix_U (pv 5) pe_int (fun _ _ => rfl))) pa_nil))) (pv 10)) pa_nil)) pk_nil))
 (pss_cons (ps_set (i := 13) sc_l_stays_right.nd rfl (Or.inl rfl) (pe_ifExp (pt_cmpR op_isU (pv 6) pe_non (nomark _)) pe_non ((pe_disp (pps_cons (pe_ix ix_U (pv 9) pe_int (fun _ _ => rfl)) (pv 6) (pps_cons (pe_ix ix_U (pv 9) pe_int (fun _ _ => rfl)) pe_int pps_nil)) (by rfl) (by rfl) (fun z => by cases z) (by decide)))))
 (pss_one (ps_expr (pe_bm PySem.F.plainAttrs_list PySem.F.slot_list_append PySem.F.type_list_append mt_append (pv 7) (pa_cons (pe_lst (pa_cons (ge_methN (pv 11) T.cl_Stay T.m_Stay_behind (ok_Stay_behind T) hgu (hr.mono (by decide)) T.kb_Stay_behind_3 (fun _ => pass_takes (takes_of rfl rfl rfl rfl)) (pa_cons (pv 12) (pa_cons (pv 13) pa_nil)) pk_nil) (pa_cons (ge_methN (pv 12) T.cl_Stay T.m_Stay_behind (ok_Stay_behind T) hgu (hr.mono (by decide)) T.kb_Stay_behind_3 (fun _ => pass_takes (takes_of rfl rfl rfl rfl)) (pa_cons (pv 11) (pa_cons (pv 13) pa_nil)) pk_nil) (pa_cons (ge_methN (pv 11) T.cl_Stay T.m_Stay_behind (ok_Stay_behind T) hgu (hr.mono (by decide)) T.kb_Stay_behind_2 (fun _ => pass_takes (takes_of rfl rfl rfl rfl)) (pa_cons (pv 11) pa_nil) pk_nil) pa_nil)))) pa_nil))))))))
 (pss_one (ps_ret (pe_and (pe_cmpR (op_eqU hr.units) (pe_callB (call_repr hgu hr T.sys) (by rfl) T.n_repr boot_repr (pa_cons (pe_ix ix_U (pv 7) pe_int (fun _ _ => rfl)) pa_nil)) (pe_callB (call_repr hgu hr T.sys) (by rfl) T.n_repr boot_repr (pa_cons (pe_ix ix_U (pv 7) pe_int (fun _ _ => rfl)) pa_nil)) (nomark _)) (pe_one (pe_cmpR op_isU (pe_ix ix_U (pe_ix ix_U (pv 7) pe_int (fun _ _ => rfl)) pe_int (fun _ _ => rfl)) pe_bl (nomark _)))))))))), ?_⟩)
  · obtain ⟨b, pf, ps, pk, pk0, pk1, by_, fs, ss, k0, k1, l0, l1, R, D, x, y, z, n, rfl, _⟩ := h
    rfl
  · obtain ⟨b, pf, ps, pk, pk0, pk1, by_, fs, ss, k0, k1, l0, l1, R, D, x, y, z, n, rfl, hI, bo, hn, ef, es, lf0, lf1, hf, hs, lss, b0, b1, ek, ek0, ek1, nk0, nk1, nl0, nl1, dk, dl, hpair, go⟩ := h
    obtain ⟨r0, hr0⟩ : ∃ r, fs[0]? = some r := ⟨_, List.getElem?_eq_getElem (by omega)⟩
    obtain ⟨rz, hrz⟩ : ∃ r, fs[fs.length - 1]? = some r := ⟨_, List.getElem?_eq_getElem (by omega)⟩
    wtm_at "go"
    wtm_at "sm"
    rename_i e0 xa ya za Ha hIa boa e00 e01 e1 xb yb zb Hb hIb bob e10 e11 pE HE DE hIE xE eE rr xc yc zc Hc hIc boc rr0 rr1 pR HR DR hIR xR eR rs2 xd yd zd Hd hId bod rs20 rs21
    refine RIx.pick (P := fun v => ∃ o : Option Int, v = oV o ∧ ∀ i, o = some i → 0 ≤ i ∧ i ≤ 20) (hId.dat eR) (all_c ⟨none, rfl, fun i h => nomatch h⟩ (all_c ⟨some rr, rfl, fun i h => by cases h; omega⟩ all_n)) rs20 (by simpa using rs21) (fun v hv => ?_)
    obtain ⟨o, rfl, ho⟩ := hv
    have x0 := xE.trans xR
    have eER := xR _ _ eE
    have ekR := x0 _ _ ek
    wtm_at "sm"
    rename_i fd H1 hI1 pT0 H2 D2 hI2 x2 e2 pT1 H3 D3 hI3 x3 e3 pL H4 D4 hI4 x4 e4
    have x04 : Ex D D4 := x0.trans (x2.trans (x3.trans x4))
    have eE4 := (x2.trans (x3.trans x4)) _ _ eER
    have q0 : fs[0]? = some r0 := hr0
    refine for_lst (xs := [V.ref pT0, V.ref pT1]) (fun j σ R' D' => ∃ (qs : List Addr) (c8 c9 c10 c11 c12 c13 : Option V), σ = [some (.ref b), some (.ref pf), some (.ref ps), some (.ref pk), some (.int by_), some (.ref pE), some (oV o), some (.ref fd), c8, c9, c10, c11, c12, c13] ∧ R' = (fd, .lst (qs.map V.ref)) :: (b, bx xd yd zd) :: R ∧ Ex D4 D' ∧ qs.length = j ∧ ∀ q ∈ qs, D' q = some (.lst [.bl (mayF (stT r0.2 by_ (1 + e0) 0) (stT rz.2 by_ (1 + e1) 0) (roO o k0 k1)), .bl (mayF (stT rz.2 by_ (1 + e1) 0) (stT r0.2 by_ (1 + e0) 0) (roO o k0 k1)), .bl false])) hI4 ⟨[], _, _, _, _, _, _, rfl, rfl, Ex.refl _, rfl, all_n⟩ (fun j σ R' D' q => ?_) (fun j v σ R' D' H' hv hI' q => ?_) (fun σ R' D' H' hI' q => ?_)
    · obtain ⟨_, _, _, _, _, _, _, _, _, q, _⟩ := q
      exact q _ _ e4
    · obtain ⟨qs, c8, c9, c10, c11, c12, c13, rfl, rfl, xq, hql, hqs⟩ := q
      have x0q := x04.trans xq
      obtain ⟨pT, pr, pkk, more, m0, m1, s0, sz, rs, rfl, eT, epr, epk, rsl, g0, gz, m00, m01, nm0, nm1, dm, i0, iz, w0, wz, kn0, knz, wb0, wbz⟩ : ∃ (pT pr pkk : Addr) (more : Int) (m0 m1 : Str) (s0 sz : Addr × Rw') (rs : List (Addr × Rw')), v = .ref pT ∧ D' pT = some (.tup [.ref pr, .ref pkk, .int more]) ∧ D' pr = some (.lst (rs.map fun r => .ref r.1)) ∧ D' pkk = some (.lst [.str m0, .str m1]) ∧ rs.length = fs.length ∧ rs[0]? = some s0 ∧ rs[fs.length - 1]? = some sz ∧ 0 ≤ more ∧ more ≤ by_ ∧ Nm m0 ∧ Nm m1 ∧ m0 ≠ m1 ∧ IsRow K D' s0.1 s0.2 ∧ IsRow K D' sz.1 sz.2 ∧ s0.2.w = r0.2.w + more ∧ sz.2.w = rz.2.w + more ∧ ((r0.2.s.kn = k0 ∧ s0.2.s.kn = m0) ∨ (r0.2.s.kn = k1 ∧ s0.2.s.kn = m1)) ∧ ((rz.2.s.kn = k0 ∧ sz.2.s.kn = m0) ∨ (rz.2.s.kn = k1 ∧ sz.2.s.kn = m1)) ∧ r0.2.w ≤ 52 - by_ ∧ rz.2.w ≤ 52 - by_ := by
        have hf0 := hf r0 (List.mem_of_getElem? hr0)
        have hfz := hf rz (List.mem_of_getElem? hrz)
        have hj : j = 0 ∨ j = 1 := by
          have := (List.getElem?_eq_some_iff.mp hv).1
          simp at this
          omega
        obtain ⟨t0, ht0⟩ : ∃ r, ss[0]? = some r := ⟨_, List.getElem?_eq_getElem (by omega)⟩
        obtain ⟨tz, htz⟩ : ∃ r, ss[fs.length - 1]? = some r := ⟨_, List.getElem?_eq_getElem (by omega)⟩
        have p0 := hpair 0 r0 t0 hr0 ht0
        have pz := hpair _ rz tz hrz htz
        rcases hj with rfl | rfl
        · cases hv
          refine ⟨pT0, pf, pk0, 0, k0, k1, r0, rz, fs, rfl, (x3.trans (x4.trans xq)) _ _ e2, x0q _ _ ef, x0q _ _ ek0, rfl, hr0, hrz, Int.le_refl _, b0, nk0, nk1, dk, hf0.1.mono x0q, hfz.1.mono x0q, by omega, by omega, ?_, ?_, hf0.2, hfz.2⟩
          · rcases p0.2.2 with h | h
            · exact .inl ⟨h.1, h.1⟩
            · exact .inr ⟨h.1, h.1⟩
          · rcases pz.2.2 with h | h
            · exact .inl ⟨h.1, h.1⟩
            · exact .inr ⟨h.1, h.1⟩
        · cases hv
          exact ⟨pT1, ps, pk1, by_, l0, l1, t0, tz, ss, rfl, (x4.trans xq) _ _ e3, x0q _ _ es, x0q _ _ ek1, lss, ht0, htz, b0, Int.le_refl _, nl0, nl1, dl, (hs t0 (List.mem_of_getElem? ht0)).mono x0q, (hs tz (List.mem_of_getElem? htz)).mono x0q, p0.1, pz.1, p0.2.2, pz.2.2, hf0.2, hfz.2⟩
      have eEq := xq _ _ eE4
      obtain ⟨_, d0, sa0, ei0, _⟩ := id i0
      obtain ⟨_, dz, saz, eiz, _⟩ := id iz
      have at0 : atI (rs.map fun r => V.ref r.1) 0 = some (.ref s0.1) := atI_mapI (by decide) g0
      have atz : atI (rs.map fun r => V.ref r.1) (-1) = some (.ref sz.1) := atI_neg1 (by omega) (by rw [rsl]; exact gz)
      have ws0 : 1 ≤ s0.2.w := i0.1.w0
      have wsz : 1 ≤ sz.2.w := iz.1.w0
      have wr0 : 1 ≤ r0.2.w := (hf r0 (List.mem_of_getElem? hr0)).1.1.w0
      wtm_at "sm"
      refine RIx.l (hI'.dat epr) at0 ?_
      wtm_at "sm"
      refine RIx.l (hI'.dat epr) at0 ?_
      wtm_at "sm"
      refine rint_use hI' i0 ?_
      wtm_at "sm"
      rename_i mA mA0 mA1 mA2 xA dxA HA hIA
      have hmA : mA = min (52 - by_) (s0.2.w - more + (1 + e0)) := by omega
      refine make_stay (by assumption) i0 (by omega) (by omega) (fun H5 D5 hI5 x5 tA => ?_)
      have epr5 := x5 _ _ epr
      have epk5 := x5 _ _ epk
      have eE5 := x5 _ _ eEq
      have iz5 := iz.mono x5
      have eiz5 := x5 _ _ eiz
      clear hIA
      wtm_at "sm"
      refine RIx.l (hI5.dat epr5) atz ?_
      wtm_at "sm"
      refine RIx.l (hI5.dat epr5) atz ?_
      wtm_at "sm"
      refine rint_use hI5 iz5 ?_
      wtm_at "sm"
      rename_i mB mB0 mB1 mB2 xB dxB HB hIB
      have hmB : mB = min (52 - by_) (sz.2.w - more + (1 + e1)) := by omega
      refine make_stay (by assumption) iz5 (by omega) (by omega) (fun H6 D6 hI6 x6 tB => ?_)
      have epk6 := x6 _ _ epk5
      have tA6 := tA.mono x6
      clear hIB
      wtm_at "sm"
      refine if_joinV (P := fun v H' => ∃ D', HI H' ((fd, .lst (qs.map V.ref)) :: (b, bx xd yd zd) :: R) D' ∧ Ex D6 D' ∧ RestsAt D' v (roO o m0 m1)) (fun v H7 q7 => ?_) (fun Q' key hb => ?_) (fun Q' key hb => ?_)
      · obtain ⟨D7, hI7, x7, ra⟩ := q7
        obtain ⟨_, dA, rA, eA, _⟩ := id (tA6.mono x7)
        obtain ⟨_, dB, rB, eB, _⟩ := id (tB.mono x7)
        wtm_at "sm"
        refine behind_use hI7 (tA6.mono x7) (tB.mono x7) ra (fun H8 D8 hI8 x8 => ?_)
        have eA8 := x8 _ _ eA
        have eB8 := x8 _ _ eB
        have x78 := x7.trans x8
        wtm_at "sm"
        refine behind_use hI8 (tB.mono x78) (tA6.mono x78) (ra.mono x8) (fun H9 D9 hI9 x9 => ?_)
        have eA9 := x9 _ _ eA8
        have x79 := x78.trans x9
        wtm_at "sm"
        refine behind_use hI9 (tA6.mono x79) (tA6.mono x79) .non (fun H10 D10 hI10 x10 => ?_)
        have eb1 : mayF ⟨s0.2, mA + more⟩ ⟨sz.2, mB + more⟩ (roO o m0 m1) = mayF (stT r0.2 by_ (1 + e0) 0) (stT rz.2 by_ (1 + e1) 0) (roO o k0 k1) :=
          mayF_lat (by_ := more) (x := o.getD 0) o.isNone dk dm w0 (by show mB + more = min (52 - by_) (rz.2.w - 0 + (1 + e1)) + 0 + more; omega) kn0 knz
        have eb2 : mayF ⟨sz.2, mB + more⟩ ⟨s0.2, mA + more⟩ (roO o m0 m1) = mayF (stT rz.2 by_ (1 + e1) 0) (stT r0.2 by_ (1 + e0) 0) (roO o k0 k1) :=
          mayF_lat (by_ := more) (x := o.getD 0) o.isNone dk dm wz (by show mA + more = min (52 - by_) (r0.2.w - 0 + (1 + e0)) + 0 + more; omega) knz kn0
        have eb3 : mayF ⟨s0.2, mA + more⟩ ⟨s0.2, mA + more⟩ none = false := by
          unfold mayF
          rw [if_pos (.inl (by show s0.2.w - (mA + more) - 1 < 0; omega))]
          exact decide_eq_false (by show ¬ 0 ≤ s0.2.w - (mA + more) - 1; omega)
        rw [eb1, eb2, eb3]
        have hj2 : j < 2 := (List.getElem?_eq_some_iff.mp hv).1
        have hql2 : (qs.map V.ref).length = j := by rw [List.length_map, hql]
        wtm_at "sm"
        rename_i pN HN DN hIN xN eN H12 hI12
        have xall : Ex D' DN := x5.trans (x6.trans (x79.trans (x10.trans xN)))
        refine ⟨_, _, hI12, qs ++ [pN], _, _, _, _, _, _, rfl, by rw [List.map_append]; rfl, xq.trans xall, by rw [List.length_append, hql]; rfl, fun q hq => ?_⟩
        rcases List.mem_append.mp hq with h | h
        · exact xall _ _ (hqs q h)
        · rw [List.mem_singleton.mp h]
          exact eN
      · cases o with
        | some i => exact absurd hb (by simp [oV])
        | none => exact key _ _ ⟨D6, hI6, Ex.refl _, .non⟩
      · cases o with
        | none => exact absurd hb (by simp [oV])
        | some i =>
          dsimp only [oV]
          wtm_at "sm"
          rename_i pD H11 hI11 H12 hI12
          have em : mergeK ([] : List (Key × V)) [(Sum.inr m0, V.int i), (Sum.inr m1, V.int 0)] = restK [(m0, i), (m1, 0)] := by
            simp [mergeK, putK, restK, dm, Ne.symm dm]
          have hI13 : HI H12 ((pD, .dK (restK [(m0, i), (m1, 0)])) :: (fd, .lst (qs.map V.ref)) :: (b, bx xd yd zd) :: R) D6 := by
            rw [← em]
            exact hI12
          obtain ⟨D7, hI7, x7, e7⟩ := hI13.fr1
          obtain ⟨i1, i2⟩ := ho i rfl
          exact key _ _ ⟨D7, hI7, x7, .dict e7 (all_c ⟨nm0, i1, i2⟩ (all_c ⟨nm1, (show (0 : Int) ≤ 0 by decide), (show (0 : Int) ≤ 20 by decide)⟩ all_n)) (show (2 : Nat) ≤ 12 by decide)⟩
    · obtain ⟨qs, c8, c9, c10, c11, c12, c13, rfl, rfl, xq, hql, hqs⟩ := q
      have hql2 : qs.length = 2 := hql
      obtain ⟨qa, qb, rfl⟩ : ∃ a b, qs = [a, b] := by
        match qs, hql2 with
        | [a, b], _ => exact ⟨a, b, rfl⟩
      obtain ⟨DF, hF, xF, eF⟩ := hI'.fr1
      have ea := xF _ _ (hqs qa (by simp))
      have eb := xF _ _ (hqs qb (by simp))
      generalize mayF (stT r0.2 by_ (1 + e0) 0) (stT rz.2 by_ (1 + e1) 0) (roO o k0 k1) = B1 at ea eb
      generalize mayF (stT rz.2 by_ (1 + e1) 0) (stT r0.2 by_ (1 + e0) 0) (roO o k0 k1) = B2 at ea eb
      have eF' : DF fd = some (.lst [.ref qa, .ref qb]) := eF
      have sm3 : Sm (.list [.bool B1, .bool B2, .bool false]) 100 1 := (Sm.list (n := 5) (k := 0) (all_c (Sm.bl _) (all_c (Sm.bl _) (all_c (Sm.bl _) all_n)))).mono (Nat.le_of_ble_eq_true rfl) (by decide)
      have rep3 : ∀ {q}, DF q = some (.lst [.bl B1, .bl B2, .bl false]) → Rep DF (.ref q) (.list [.bool B1, .bool B2, .bool false]) := fun e => .lst e (.cons (.bl _) (.cons (.bl _) (.cons (.bl _) .nil)))
      clear hI' hqs eF
      wtm_at "sm"
      refine repr_sm (hF.rep (rep3 ea)) sm3 (by decide) (by decide) ?_
      wtm_at "sm"
      refine repr_sm (hF.rep (rep3 eb)) sm3 (by decide) (by decide) ?_
      refine req_same ?_
      wtm_at "sm"
      rw [decide_eq_true rfl]
      exact go _ _ hF.drop (x04.trans (xq.trans xF))
def wki (g : Int → Int) (N : Nat) : List Int := (List.range N).map fun (i : Nat) => g ((i : Int) + 1)
theorem wki_map {g : Int → Int} {N : Nat} : wkl g N = (wki g N).map V.int := by unfold wkl wki; rw [List.map_map]; rfl
theorem headsW_bd {rs : List Rw'} {f : Wf} {n k : Int} (h : ∀ r ∈ rs, 0 ≤ r.h ∧ r.h ≤ 1000) : 0 ≤ headsW rs f n k ∧ headsW rs f n k ≤ 1000 * rs.length := by
  induction rs with
  | nil => exact ⟨Int.le_refl _, Int.le_refl _⟩
  | cons r l ih =>
    obtain ⟨a, b⟩ := ih fun x hx => h x (List.mem_cons_of_mem _ hx)
    obtain ⟨c, d⟩ := h r (List.mem_cons_self ..)
    have e : headsW (r :: l) f n k = (if inCut (r.cut f n) k = true then r.h else 0) + headsW l f n k := by
      unfold headsW
      rw [List.map_cons, List.sum_cons]
    rw [e, List.length_cons]
    split <;> omega
theorem sm_ints {ns : List Int} (h : ∀ i ∈ ns, i.natAbs < 10 ^ 30) (l : ns.length ≤ 1000) : Sm (.list (ns.map PyData.int)) 33003 1 := by
  refine (Sm.list (n := 31) (k := 0) fun d hd => ?_).mono ?_ (Nat.le_refl _)
  · obtain ⟨i, hi, rfl⟩ := List.mem_map.mp hd
    exact Sm.int (h i hi)
  · rw [List.length_map]
    omega
theorem sm_wki {rs : List Rw'} {f : Wf} {n : Int} {N : Nat} (h : ∀ r ∈ rs, 0 ≤ r.h ∧ r.h ≤ 1000) (l : rs.length ≤ 1000) (hN : N ≤ 1000) : Sm (.list ((wki (headsW rs f n) N).map PyData.int)) 33003 1 := by
  refine sm_ints (fun i hi => ?_) (by unfold wki; rw [List.length_map, List.length_range]; exact hN)
  unfold wki at hi
  obtain ⟨j, _, rfl⟩ := List.mem_map.mp hi
  obtain ⟨a, b⟩ := headsW_bd (f := f) (n := n) (k := (j : Int) + 1) h
  refine Nat.lt_of_le_of_lt (m := 1000000) ?_ (by decide)
  omega
theorem rep_wkl {H : Hp} {p : Addr} {g : Int → Int} {N : Nat} (e : H p = some (.lst (wkl g N))) : Rep H (.ref p) (.list ((wki g N).map PyData.int)) := by
  rw [wki_map] at e
  exact .lst e (ints_rep _)
theorem RsAt.hh {K : PySem.W.Frag} {R : Cells} {D : Hp} {p : Addr} {rs : List (Addr × Rw')} (h : RsAt K R D p rs) : ∀ r ∈ rs.map Prod.snd, 0 ≤ r.h ∧ r.h ≤ 1000 := fun r hr => by
  obtain ⟨x, hx, rfl⟩ := List.mem_map.mp hr
  obtain ⟨ok, _⟩ := h.i x hx
  exact ⟨Int.le_trans (by decide) ok.h0, ok.h1⟩
def movD (t : Mv) : PyData := .tuple [.int t.1, cD t.2.1, cD t.2.2]
theorem MvAt.rep {H : Hp} {v : V} {t : Mv} (h : MvAt H v t) : Rep H v (movD t) := by
  obtain ⟨p, a, b, rfl, e, h1, h2⟩ := h
  exact .tup e (.cons (.int _) (.cons h1.rep (.cons h2.rep .nil)))
theorem rep_mvs {H : Hp} : ∀ {xs : List V} {ts : List Mv}, MvsAt H xs ts → RepL H xs (ts.map movD)
  | _, _, .nil => .nil
  | _, _, .cons h l => .cons h.rep (rep_mvs l)
def Small (o : Option (Int × Int)) : Prop := ∀ p, o = some p → (-1000 ≤ p.1 ∧ p.1 ≤ 1000) ∧ -1000 ≤ p.2 ∧ p.2 ≤ 1000
theorem sm_i3 {i : Int} (a : -1000 ≤ i) (b : i ≤ 1000) : Sm (.int i) 31 0 := Sm.int (Nat.lt_of_le_of_lt (by omega : i.natAbs ≤ 1000) (by decide))
theorem sm_cD {o : Option (Int × Int)} (h : Small o) : Sm (cD o) 100 1 := by
  cases o with
  | none => exact Sm.non.mono (by omega) (by omega)
  | some p =>
    obtain ⟨⟨a, b⟩, c, d⟩ := h p rfl
    refine (Sm.tuple (n := 31) (k := 0) (all_c (sm_i3 a b) (all_c (sm_i3 c d) all_n))).mono ?_ (by omega)
    show 31 * 2 + 2 * 2 + 3 ≤ 100
    omega
theorem sm_movD {t : Mv} (h0 : t.1 ≤ 1000) (h1 : Small t.2.1) (h2 : Small t.2.2) : Sm (movD t) 400 2 := by
  refine (Sm.tuple (n := 100) (k := 1) (all_c ((sm_i3 (by omega) (by omega)).mono (by omega) (by omega)) (all_c (sm_cD h1) (all_c (sm_cD h2) all_n)))).mono ?_ (by omega)
  show 100 * 3 + 2 * 3 + 3 ≤ 400
  omega
theorem small_cut {f : Wf} {n s need keeps bears : Int} (n1 : n ≤ 1000) (s0 : 1 ≤ s) (k0 : 1 ≤ keeps) : Small (cutO f n s need keeps bears) := fun p h => by
  unfold cutO at h
  cases e : ripeO f n s need with
  | none =>
    rw [e] at h
    cases h
  | some r =>
    rw [e] at h
    have a := ripe_in_year e
    have el := ripe_last (keeps := keeps) e
    have b := last_in_year k0 el
    cases e2 : lostO f n s need keeps bears with
    | none =>
      rw [e2, el] at h
      cases h
      exact ⟨⟨by omega, by omega⟩, by show -1000 ≤ min n (r + keeps - 1); omega, by show min n (r + keeps - 1) ≤ 1000; omega⟩
    | some l =>
      rw [e2] at h
      unfold lostO at e2
      rw [el] at e2
      have c := fst_some e2
      have c1 := c.1
      have c2 := c.2.1
      dsimp only at h
      split at h
      · cases h
      · cases h
        exact ⟨⟨by omega, by omega⟩, by show -1000 ≤ l - 1; omega, by show l - 1 ≤ 1000; omega⟩
theorem movs_len {rs : List Rw'} {f f' : Wf} {n : Int} : (movs rs f f' n).length ≤ rs.length := by
  unfold movs
  refine Nat.le_trans (List.length_filter_le _ _) ?_
  rw [List.length_map, List.length_zipIdx]
  exact Nat.le_refl _
theorem movs_mem {rs : List Rw'} {f f' : Wf} {n : Int} {t : Mv} (h : t ∈ movs rs f f' n) : ∃ r, rs[t.1]? = some r ∧ t.2.1 = r.cut f n ∧ t.2.2 = r.cut f' n ∧ r.cut f n ≠ r.cut f' n := by
  unfold movs at h
  obtain ⟨h1, h2⟩ := List.mem_filter.mp h
  obtain ⟨p, hp, rfl⟩ := List.mem_map.mp h1
  have hp' := List.mem_zipIdx_iff_getElem?.mp hp
  refine ⟨p.1, hp', rfl, rfl, fun e => ?_⟩
  have h2 : (!decide (p.1.cut f n = p.1.cut f' n)) = true := h2
  rw [decide_eq_true e] at h2
  cases h2
theorem sm_mvs {rs : List Rw'} {f f' : Wf} {n : Int} (n1 : n ≤ 1000) (h : ∀ r ∈ rs, r.Ok ∧ r.s.Ok) (l : rs.length ≤ 100) : Sm (.list ((movs rs f f' n).map movD)) 50000 3 := by
  have hl := movs_len (rs := rs) (f := f) (f' := f') (n := n)
  refine (Sm.list (n := 400) (k := 2) fun d hd => ?_).mono ?_ (Nat.le_refl _)
  · obtain ⟨t, ht, rfl⟩ := List.mem_map.mp hd
    obtain ⟨r, hr, e1, e2, _⟩ := movs_mem ht
    obtain ⟨ok, sok⟩ := h r (List.mem_of_getElem? hr)
    have hi := (List.getElem?_eq_some_iff.mp hr).1
    refine sm_movD (by omega) ?_ ?_
    · rw [e1]
      exact small_cut n1 ok.w0 sok.k0
    · rw [e2]
      exact small_cut n1 ok.w0 sok.k0
  · rw [List.length_map]
    omega
def Few (o : Option Int) : Prop := ∀ i, o = some i → -1000 ≤ i ∧ i ≤ 1000
section
variable {f : Wf} {n s need keeps bears : Int}
theorem few_ripe (n1 : n ≤ 1000) (s0 : 1 ≤ s) : Few (ripeO f n s need) := fun i h => by
  have := ripe_in_year h
  omega
theorem few_last (n1 : n ≤ 1000) (s0 : 1 ≤ s) (k0 : 1 ≤ keeps) : Few (lastO f n s need keeps) := fun i h => by
  have := last_in_year k0 h
  omega
theorem few_lost (n1 : n ≤ 1000) (s0 : 1 ≤ s) (k0 : 1 ≤ keeps) : Few (lostO f n s need keeps bears) := fun i h => by
  unfold lostO at h
  cases e : lastO f n s need keeps with
  | none =>
    rw [e] at h
    cases h
  | some l =>
    rw [e] at h
    have a := last_in_year k0 e
    have b := fst_some h
    have b1 := b.1
    have b2 := b.2.1
    omega
end
theorem sm_oD {o : Option Int} (h : Few o) : Sm (oD o) 100 1 := by
  cases o with
  | none => exact Sm.non.mono (by omega) (by omega)
  | some i => exact (sm_i3 (h i rfl).1 (h i rfl).2).mono (by omega) (by omega)
theorem sm_tellD {f : Wf} {n w : Int} {q : Num} (n1 : n ≤ 1000) (w0 : 1 ≤ w) (k0 : 1 ≤ q.k) : Sm (tellD f n q w) 500 2 := by
  refine (Sm.list (n := 100) (k := 1) (all_c (sm_oD (few_ripe n1 w0)) (all_c (sm_oD (few_last n1 w0 k0)) (all_c (sm_oD (few_lost n1 w0 k0)) (all_c (sm_cD (small_cut n1 w0 k0)) all_n))))).mono ?_ (by omega)
  show 100 * 4 + 2 * 4 + 3 ≤ 500
  omega
def latO (by_ : Int) (o : Option Int) : Option Int := o.map (· + by_)
def latC (by_ : Int) (o : Option (Int × Int)) : Option (Int × Int) := o.map fun p => (p.1 + by_, p.2 + by_)
def latD (by_ : Int) (f : Wf) (n : Int) (q : Num) (w : Int) : PyData := .list [oD (latO by_ (ripeO f n w q.n)), oD (latO by_ (lastO f n w q.n q.k)), oD (latO by_ (lostO f n w q.n q.k q.b)), cD (latC by_ (cutO f n w q.n q.k q.b))]
theorem tellD_lat {f f' : Wf} {n by_ w : Int} {q : Num} (h : Lat f f' by_ n) (w0 : 1 ≤ w) (k0 : 1 ≤ q.k) : tellD f' (n + by_) q (w + by_) = latD by_ f n q w := by
  unfold tellD
  rw [ripe_lat h w0, last_lat h w0, lost_lat h w0 k0, cut_lat h w0 k0]
  rfl
theorem map_of {α β : Type} {rs : List (Addr × Rw')} {cs : List α} {A : α → Rw'} (h : rs.map (·.2) = cs.map A) (G : Rw' → β) : rs.map (fun r => G r.2) = cs.map fun c => G (A c) := by
  have := congrArg (List.map G) h
  rw [List.map_map, List.map_map] at this
  exact this
theorem inCut_lat {o : Option (Int × Int)} {k by_ : Int} : inCut (latC by_ o) (k + by_) = inCut o k := by
  cases o with
  | none => rfl
  | some p =>
    show (decide (p.1 + by_ ≤ k + by_) && decide (k + by_ ≤ p.2 + by_)) = (decide (p.1 ≤ k) && decide (k ≤ p.2))
    rw [Bool.eq_iff_iff, Bool.and_eq_true, Bool.and_eq_true, decide_eq_true_iff, decide_eq_true_iff, decide_eq_true_iff, decide_eq_true_iff]
    omega
theorem sum_zero {α : Type} : ∀ {cs : List α}, (cs.map fun _ => (0 : Int)).sum = 0
  | [] => rfl
  | _ :: cs => by
    rw [List.map_cons, List.sum_cons, sum_zero]
    rfl
section
variable {cs : List (V × Crd)} {ys ks ys' ks' : List Str} {f f' g g' : Wf} {n by_ k : Int}
theorem heads_lat (h : Lat f f' by_ n) (hc : ∀ c ∈ cs, 1 ≤ c.2.w ∧ 1 ≤ c.2.q.k) : headsW (cs.map fun c => rwOf ys ks by_ c.2) f' (n + by_) (k + by_) = headsW (cs.map fun c => rwOf ys' ks' 0 c.2) f n k := by
  unfold headsW
  rw [List.map_map, List.map_map]
  congr 1
  refine List.map_congr_left fun c hm => ?_
  obtain ⟨w0, k0⟩ := hc c hm
  show (if inCut (cutO f' (n + by_) (c.2.w + by_) c.2.q.n c.2.q.k c.2.q.b) (k + by_) = true then c.2.h else 0) = if inCut (cutO f n (c.2.w + 0) c.2.q.n c.2.q.k c.2.q.b) k = true then c.2.h else 0
  rw [cut_lat h w0 k0, Int.add_zero]
  show (if inCut (latC by_ _) (k + by_) = true then _ else _) = _
  rw [inCut_lat]
theorem heads_ahead (h : Lat f f' by_ n) (hc : ∀ c ∈ cs, 1 ≤ c.2.w ∧ 1 ≤ c.2.q.k) (k1 : k ≤ by_) : headsW (cs.map fun c => rwOf ys ks by_ c.2) f' (n + by_) k = 0 := by
  unfold headsW
  rw [List.map_map]
  have e : (cs.map ((fun r : Rw' => if inCut (r.cut f' (n + by_)) k = true then r.h else 0) ∘ fun c => rwOf ys ks by_ c.2)) = cs.map fun _ => (0 : Int) := by
    refine List.map_congr_left fun c hm => ?_
    obtain ⟨w0, k0⟩ := hc c hm
    show (if inCut (cutO f' (n + by_) (c.2.w + by_) c.2.q.n c.2.q.k c.2.q.b) k = true then c.2.h else 0) = 0
    cases e : cutO f' (n + by_) (c.2.w + by_) c.2.q.n c.2.q.k c.2.q.b with
    | none => rfl
    | some p =>
      have a := cut_in_year k0 e
      rw [if_neg]
      intro hp
      have := (inCut_iff.mp hp).1
      omega
  rw [e]
  exact sum_zero
theorem wki_lat {g g' : Int → Int} (n0 : 0 ≤ n) (b0 : 0 ≤ by_) (h0 : ∀ k, k ≤ by_ → g' k = 0) (h1 : ∀ k, g' (k + by_) = g k) : wki g' (n + by_).toNat = wki (fun _ => 0) by_.toNat ++ wki g n.toNat := by
  rw [show (n + by_).toNat = by_.toNat + n.toNat by omega]
  unfold wki
  rw [List.range_add, List.map_append]
  congr 1
  · refine List.map_congr_left fun i hi => ?_
    have := List.mem_range.mp hi
    exact h0 _ (by omega)
  · rw [List.map_map]
    refine List.map_congr_left fun i hi => ?_
    show g' (((by_.toNat + i : Nat) : Int) + 1) = g ((i : Int) + 1)
    rw [show (((by_.toNat + i : Nat) : Int) + 1) = ((i : Int) + 1) + by_ by omega]
    exact h1 _
def stl (f : Wf) (n : Nat) (s need keeps bears : Int) : List Str := (List.range n).map fun (j : Nat) => wname (wcd f n s need keeps bears ((j : Int) + 1))
theorem stl_lat {B m : Nat} {s need keeps bears : Int} (h : Lat f f' B m) (s1 : 1 ≤ s) (k0 : 1 ≤ keeps) : stl f' (B + m) (s + B) need keeps bears = List.replicate B (Str.ofString "unsown") ++ stl f m s need keeps bears := by
  unfold stl
  rw [List.range_add, List.map_append]
  congr 1
  · refine List.eq_replicate_iff.mpr ⟨by rw [List.length_map, List.length_range], fun x hx => ?_⟩
    obtain ⟨i, hi, rfl⟩ := List.mem_map.mp hx
    have := List.mem_range.mp hi
    rw [wcd_lt (by omega)]
    rfl
  · rw [List.map_map]
    refine List.map_congr_left fun i hi => ?_
    show wname (wcd f' ((B + m : Nat) : Int) (s + B) need keeps bears (((B + i : Nat) : Int) + 1)) = _
    rw [show (((B + i : Nat) : Int) + 1) = ((i : Int) + 1) + B by omega, show ((B + m : Nat) : Int) = (m : Int) + B by omega, wcd_lat h s1 k0]
def latM (by_ : Int) (t : Mv) : Mv := (t.1, latC by_ t.2.1, latC by_ t.2.2)
theorem latC_inj {o u : Option (Int × Int)} : latC by_ o = latC by_ u ↔ o = u := by
  refine ⟨fun h => ?_, fun h => by rw [h]⟩
  cases o with
  | none => cases u with
    | none => rfl
    | some q => cases h
  | some p => cases u with
    | none => cases h
    | some q =>
      have h2 : (p.1 + by_, p.2 + by_) = (q.1 + by_, q.2 + by_) := Option.some.inj h
      have a := congrArg Prod.fst h2
      have b := congrArg Prod.snd h2
      dsimp only at a b
      exact congrArg some (Prod.ext (by omega) (by omega))
theorem movs_lat (hf : Lat f f' by_ n) (hg : Lat g g' by_ n) (hc : ∀ c ∈ cs, 1 ≤ c.2.w ∧ 1 ≤ c.2.q.k) : movs (cs.map fun c => rwOf ys ks by_ c.2) f' g' (n + by_) = (movs (cs.map fun c => rwOf ys' ks' 0 c.2) f g n).map (latM by_) := by
  have key : ∀ p ∈ cs.zipIdx, movT f' g' (n + by_) (rwOf ys ks by_ p.1.2) p.2 = latM by_ (movT f g n (rwOf ys' ks' 0 p.1.2) p.2) := fun p hp => by
    obtain ⟨w0, k0⟩ := hc p.1 (List.mem_of_getElem? (List.mem_zipIdx_iff_getElem?.mp hp))
    show (p.2, cutO f' (n + by_) (p.1.2.w + by_) p.1.2.q.n p.1.2.q.k p.1.2.q.b, cutO g' (n + by_) (p.1.2.w + by_) p.1.2.q.n p.1.2.q.k p.1.2.q.b) = (p.2, latC by_ (cutO f n (p.1.2.w + 0) p.1.2.q.n p.1.2.q.k p.1.2.q.b), latC by_ (cutO g n (p.1.2.w + 0) p.1.2.q.n p.1.2.q.k p.1.2.q.b))
    rw [cut_lat hf w0 k0, cut_lat hg w0 k0, Int.add_zero]
    rfl
  unfold movs
  rw [List.zipIdx_map, List.zipIdx_map, List.map_map, List.map_map, List.filter_map, List.filter_map, List.map_map]
  have ef : cs.zipIdx.filter ((fun t : Mv => !decide (t.2.1 = t.2.2)) ∘ ((fun p : Rw' × Nat => movT f' g' (n + by_) p.1 p.2) ∘ Prod.map (fun c : V × Crd => rwOf ys ks by_ c.2) id)) = cs.zipIdx.filter ((fun t : Mv => !decide (t.2.1 = t.2.2)) ∘ ((fun p : Rw' × Nat => movT f g n p.1 p.2) ∘ Prod.map (fun c : V × Crd => rwOf ys' ks' 0 c.2) id)) := by
    refine List.filter_congr fun p hp => ?_
    show (!decide ((movT f' g' (n + by_) (rwOf ys ks by_ p.1.2) p.2).2.1 = (movT f' g' (n + by_) (rwOf ys ks by_ p.1.2) p.2).2.2)) = !decide ((movT f g n (rwOf ys' ks' 0 p.1.2) p.2).2.1 = (movT f g n (rwOf ys' ks' 0 p.1.2) p.2).2.2)
    rw [key p hp]
    show (!decide (latC by_ _ = latC by_ _)) = _
    rw [decide_eq_decide.mpr latC_inj]
  rw [ef]
  exact List.map_congr_left fun p hp => key p (List.mem_filter.mp hp).1
end
theorem lat_app {as ws : List (Int × Int)} {B : Nat} (l : as.length = B) : Lat (stand ws fun _ => none) (stand (as ++ ws) fun _ => none) B ws.length := fun j a b => by
  show (as ++ ws).getD (j + B - 1).toNat (0, 0) = ws.getD (j - 1).toNat (0, 0)
  rw [List.getD_eq_getElem?_getD, List.getD_eq_getElem?_getD, List.getElem?_append_right (by omega), show (j + B - 1).toNat - as.length = (j - 1).toNat by omega]
theorem lat_put {as ws : List (Int × Int)} {B : Nat} {k : Int} {p : Int × Int} (l : as.length = B) : Lat (stand ws (putM (fun _ => none) k (some p))) (stand (as ++ ws) (putM (fun _ => none) (k + B) (some p))) B ws.length := fun j a b => by
  by_cases h : j = k
  · unfold stand putM
    rw [if_pos h, if_pos (by omega)]
    rfl
  · have := lat_app l j a b
    unfold stand putM
    rw [if_neg h, if_neg (by omega)]
    exact this
theorem rep_oD {H : Hp} {v : V} {o : Option Int} (h : Rep H v (oD o)) : v = oV o := by
  cases o with
  | none =>
    change Rep H v .none at h
    cases h
    rfl
  | some i =>
    change Rep H v (.int i) at h
    cases h
    rfl
theorem rep_cD {H : Hp} {v : V} {o : Option (Int × Int)} (h : Rep H v (cD o)) : CutAt H v o := by
  cases o with
  | none =>
    change Rep H v .none at h
    cases h
    rfl
  | some p =>
    change Rep H v (.tuple [.int p.1, .int p.2]) at h
    cases h with
    | tup e l =>
      cases l with
      | cons a l =>
        cases l with
        | cons b l =>
          cases l
          cases a
          cases b
          exact ⟨_, rfl, e⟩
/-- what is told, and its form so many weeks later -/
def Lt (D : Hp) (by_ : Int) (v : V) (e : PyData) : Prop := (∃ o, v = oV o ∧ e = oD (latO by_ o)) ∨ ∃ o, CutAt D v o ∧ e = cD (latC by_ o)
theorem Lt.mono {D D' : Hp} {by_ : Int} {v : V} {e : PyData} (h : Lt D by_ v e) (x : Ex D D') : Lt D' by_ v e := by
  rcases h with h | ⟨o, c, e⟩
  · exact .inl h
  · exact .inr ⟨o, c.mono x, e⟩
theorem llaterC_use {v : V} {by_ : Int} {o : Option (Int × Int)} {R : Cells} {D H : Hp} {Q : VK} {E : XK} (hI : HI H R D) (c : CutAt D v o) (q : ∀ v' H' D', HI H' R D' → Ex D D' → CutAt D' v' (latC by_ o) → Q v' H') : spLLater [v, .int by_] H Q E := by
  cases o with
  | none =>
    have e : v = .non := c
    exact ⟨v, by_, R, D, rfl, hI, .inl ⟨e, q _ _ _ hI (Ex.refl _) rfl⟩⟩
  | some p =>
    obtain ⟨a, rfl, e⟩ := c
    exact ⟨_, by_, R, D, rfl, hI, .inr (.inr ⟨a, p.1, p.2, rfl, e, fun b H' D' h x e' => q _ _ _ h x ⟨b, rfl, e'⟩⟩)⟩
theorem llater_use {v : V} {by_ : Int} {e : PyData} {R : Cells} {D H : Hp} {Q : VK} {E : XK} (hI : HI H R D) (l : Lt D by_ v e) (q : ∀ v' H' D', HI H' R D' → Ex D D' → Rep D' v' e → Q v' H') : spLLater [v, .int by_] H Q E := by
  rcases l with ⟨o, rfl, rfl⟩ | ⟨o, c, rfl⟩
  · cases o with
    | none => exact ⟨_, by_, R, D, rfl, hI, .inl ⟨rfl, q _ _ _ hI (Ex.refl _) .non⟩⟩
    | some i => exact ⟨_, by_, R, D, rfl, hI, .inr (.inl ⟨i, rfl, q _ _ _ hI (Ex.refl _) (.int _)⟩)⟩
  · exact llaterC_use hI c fun v' H' D' h x c' => q _ _ _ h x c'.rep
/-- a row's four answers, laid open -/
theorem told_open {H : Hp} {v : V} {by_ : Int} {f : Wf} {n w : Int} {q : Num} (h : Rep H v (tellD f n q w)) : ∃ p vs es, v = .ref p ∧ H p = some (.lst vs) ∧ latD by_ f n q w = .list es ∧ Paired (Lt H by_) vs es ∧ vs.length = 4 := by
  unfold tellD at h
  cases h with
  | lst e l =>
    cases l with
    | cons a l => cases l with
      | cons b l => cases l with
        | cons c l => cases l with
          | cons d l =>
            cases l
            exact ⟨_, _, _, rfl, e, rfl, .cons (.inl ⟨_, rep_oD a, rfl⟩) (.cons (.inl ⟨_, rep_oD b, rfl⟩) (.cons (.inl ⟨_, rep_oD c, rfl⟩) (.cons (.inr ⟨_, rep_cD d, rfl⟩) .nil))), rfl⟩
theorem rep_stat {H : Hp} {v : V} {f : Wf} {n : Nat} {r : Rw'} (h : Rep H v (statD f n r)) : ∃ p, v = .ref p ∧ H p = some (.lst ((stl f n r.w r.s.n r.s.k r.s.b).map V.str)) := by
  unfold statD at h
  cases h with
  | lst e l =>
    have inv : ∀ {zs : List Str} {vs : List V}, RepL H vs (zs.map PyData.str) → vs = zs.map V.str := fun {zs} => by
      induction zs with
      | nil =>
        intro vs h
        cases h
        rfl
      | cons z zs ih =>
        intro vs h
        cases h with
        | cons a l =>
          cases a
          rw [ih l]
          rfl
    rw [inv l] at e
    exact ⟨_, rfl, e⟩
theorem wname_sg : ∀ c : Nat, Sg (wname c) ∧ (wname c).length ≤ 6
  | 0 => ⟨sg_of rfl, Nat.le_of_ble_eq_true rfl⟩
  | 1 => ⟨sg_of rfl, Nat.le_of_ble_eq_true rfl⟩
  | 2 => ⟨sg_of rfl, Nat.le_of_ble_eq_true rfl⟩
  | 3 => ⟨sg_of rfl, Nat.le_of_ble_eq_true rfl⟩
  | _ + 4 => ⟨sg_of rfl, Nat.le_of_ble_eq_true rfl⟩
theorem sm_stat {f : Wf} {n : Nat} {r : Rw'} (l : n ≤ 52) : Sm (statD f n r) 4000 1 := by
  refine (Sm.list (n := 62) (k := 0) fun d hd => ?_).mono ?_ (Nat.le_refl _)
  · obtain ⟨z, hz, rfl⟩ := List.mem_map.mp hd
    obtain ⟨j, _, rfl⟩ := List.mem_map.mp hz
    obtain ⟨a, b⟩ := wname_sg (wcd f n r.w r.s.n r.s.k r.s.b ((j : Int) + 1))
    exact (Sm.str a).mono (by omega) (Nat.le_refl _)
  · rw [List.length_map, List.length_map, List.length_range]
    omega
theorem flat_one {N : Nat} {v : V} : (List.replicate N [v]).flatten = List.replicate N v := by
  induction N with
  | zero => rfl
  | succ n ih =>
    rw [List.replicate_succ, List.flatten_cons, ih, List.replicate_succ]
    rfl
theorem lnames_use {b : Addr} {m : Int} {R : Cells} {D H : Hp} {x y z : Int} {n : Nat} {Q : VK} {E : XK} (hI : HI H ((b, bx x y z) :: R) D) (bo : BoxOk n x y z) (hn : n + 100 < 1000000) (m0 : 0 ≤ m) (m1 : m ≤ 100)
  (k : ∀ (p : Addr) (ys : List Str) x' y' z' n' H' D', HI H' ((b, bx x' y' z') :: R) D' → Ex D D' → BoxOk n' x' y' z' → n' ≤ n + 20 → D' p = some (.lst (ys.map V.str)) → (ys.length : Int) = m → (∀ y ∈ ys, Nm y) → (m ≤ 12 → ys.Nodup) → Q (.ref p) H') : spNames [.ref b, .int m] H Q E := ⟨b, m, R, D, x, y, z, n, rfl, hI, bo, hn, m0, m1, k⟩
theorem lrowsC_use {K : PySem.W.Frag} {pc pn pk : Addr} {by_ by2 : Int} {cs : List (V × Crd)} {ys ks : List Str} {R : Cells} {D H : Hp} {Q : VK} {E : XK} (hI : HI H R D) (ec : D pc = some (.lst (cs.map (·.1)))) (cl : cs.length ≤ 6) (hcs : ∀ c ∈ cs, CrdAt D by2 c.1 c.2) (b0 : 0 ≤ by_) (b1 : by_ ≤ by2) (b2 : by2 ≤ 51) (en : D pn = some (.lst (ys.map V.str))) (ly : 4 ≤ ys.length) (hy : ∀ y ∈ ys, Nm y) (ek : D pk = some (.lst (ks.map V.str))) (lk : 2 ≤ ks.length) (hk : ∀ y ∈ ks, Nm y)
  (go : ∀ (p : Addr) (rs : List (Addr × Rw')) H' D', HI H' R D' → Ex D D' → D' p = some (.lst (rs.map fun r => .ref r.1)) → rs.map (·.2) = cs.map (fun c => rwOf ys ks by_ c.2) → (∀ r ∈ rs, IsRow K D' r.1 r.2) → Q (.ref p) H') : spLRowsC K [.ref pc, .ref pn, .ref pk, .int by_] H Q E :=
  ⟨pc, pn, pk, by_, by2, cs, ys, ks, R, D, rfl, hI, ec, cl, hcs, b0, b1, b2, en, ly, hy, ek, lk, hk, go⟩
theorem ltoldC_use {K : PySem.W.Frag} {p y : Addr} {rs : List (Addr × Rw')} {f : Wf} {n : Int} {R : Cells} {D H : Hp} {Q : VK} {E : XK} (hI : HI H R D) (ep : D p = some (.lst (rs.map fun r => .ref r.1))) (rl : rs.length ≤ 6) (hrs : ∀ r ∈ rs, IsRow K D r.1 r.2) (yr : YrAt K R D y f n)
  (go : ∀ v H' D', HI H' R D' → Ex D D' → Rep D' v (.list (rs.map fun r => tellD f n ⟨r.2.s.n, r.2.s.k, r.2.s.b⟩ r.2.w)) → Q v H') : spLToldC K [.ref p, .ref y] H Q E := ⟨p, y, rs, f, n, R, D, rfl, hI, ep, rl, hrs, yr, go⟩
theorem lown_use {pc wl : Addr} {by2 : Int} {cs : List (V × Crd)} {xs : List V} {ws : List (Int × Int)} {R : Cells} {D H : Hp} {Q : VK} {E : XK} (hI : HI H R D) (ec : D pc = some (.lst (cs.map (·.1)))) (cl : cs.length ≤ 6) (b0 : 0 ≤ by2) (hcs : ∀ c ∈ cs, CrdAt D by2 c.1 c.2) (ew : D wl = some (.lst xs)) (pl : PairsL D xs ws) (l52 : ws.length ≤ 52)
  (go : ∀ p vs H' D', HI H' R D' → Ex D D' → D' p = some (.lst vs) → RepL D' vs (cs.map fun c => tellD (FW ws) ws.length c.2.q c.2.w) → Q (.ref p) H') : spLOwn [.ref pc, .ref wl] H Q E := ⟨pc, wl, by2, cs, xs, ws, R, D, rfl, hI, ec, cl, b0, hcs, ew, pl, l52, go⟩
theorem lstates_use {K : PySem.W.Frag} {p y : Addr} {rs : List (Addr × Rw')} {f : Wf} {n : Nat} {R : Cells} {D H : Hp} {Q : VK} {E : XK} (hI : HI H R D) (ep : D p = some (.lst (rs.map fun r => .ref r.1))) (rl : rs.length ≤ 6) (hrs : ∀ r ∈ rs, IsRow K D r.1 r.2) (yr : YrAt K R D y f n) (n52 : n ≤ 52)
  (go : ∀ v H' D', HI H' R D' → Ex D D' → Rep D' v (.list (rs.map fun r => statD f n r.2)) → Q v H') : spLStates K [.ref p, .ref y] H Q E := ⟨p, y, rs, f, n, R, D, rfl, hI, ep, rl, hrs, yr, n52, go⟩
def spLRightC (K : PySem.W.Frag) : Sp := fun vs H Q _ => ∃ (b : Addr) (R : Cells) (D : Hp) (x y z : Int) (n : Nat), vs = [.ref b] ∧ HI H ((b, bx x y z) :: R) D ∧ BoxOk n x y z ∧ n + 5000 < 1000000 ∧ ∀ H' D', HI H' R D' → Ex D D' → Q (.bl true) H'
set_option maxHeartbeats 8000000 in
theorem ok_l_right {P : Program} {w : World} {K : PySem.W.Frag} {mg : Str → Option Value} {base : Heap} (T : Tx K mg) : FnG P w K mg base 12 (a_l_right K) ["box"] (spLRightC K) := by
  refine T.f_l_right.ok sc_l_right (fun vs H Q E h => ?_) (fun cdv A outer s H vs Q E hgu hr h => ⟨_, (pss_cons (ps_set (i := 1) sc_l_right.nd rfl (Or.inl rfl) (ge_call (ok_l_weeks T) hgu (hr.mono (by decide)) rfl T.g_l_weeks T.k_l_weeks T.b_l_weeks .nil (fun _ => pass_takes (takes_of rfl rfl rfl rfl)) (pa_cons (pv 0) pa_nil)))
 (pss_cons (ps_set (i := 2) sc_l_right.nd rfl (Or.inr rfl) (ge_call (ok_l_take T) hgu (hr.mono (by decide)) rfl T.g_l_take T.k_l_take T.b_l_take .nil (fun _ => pass_takes (takes_of rfl rfl rfl rfl)) (pa_cons (pv 0) (pa_cons (pe_op op_sub pe_int (pe_callB (call_lenU) (by rfl) T.n_len boot_len (pa_cons (pv 1) pa_nil))) pa_nil))))
 (pss_cons (ps_setLc (i := 3) (own := [("k", 16)]) rfl sc_l_right.nd rfl rfl (sw_true rfl rfl rfl (by decide +kernel)) (pi_range1 rfl T.n_range (pa_cons (pv 2) pa_nil)) (blkOk_by (own := [("k", 16)]) (N := ["box", "weeks", "by", "ahead", "cards", "names", "kins", "first", "second", "year", "other", "own", "week", "warmth", "cold", "found", "k", "told", "thing", "words", "at", "one", "two"]) (sc := defScope s_l_right) (by decide +kernel)) (fun _ _ _ _ _ => (pg_name (i := 16) sc_l_right.nd rfl (by first | exact Or.inl rfl | exact Or.inr rfl))) (fun _ _ _ _ _ => pts_nil) (fun _ _ _ _ _ => (pe_tup (pa_cons (ge_call (ok_l_take T) hgu (hr.mono (by decide)) rfl T.g_l_take T.k_l_take T.b_l_take .nil (fun _ => pass_none) (pa_cons (pv 0) (pa_cons pe_int pa_nil))) (pa_cons (pe_op op_sub (ge_call (ok_l_take T) hgu (hr.mono (by decide)) rfl T.g_l_take T.k_l_take T.b_l_take .nil (fun _ => pass_none) (pa_cons (pv 0) (pa_cons pe_int pa_nil))) pe_int) pa_nil)))))
 (pss_cons (ps_set (i := 4) sc_l_right.nd rfl (Or.inl rfl) (ge_call (ok_l_scene T) hgu (hr.mono (by decide)) rfl T.g_l_scene T.k_l_scene T.b_l_scene .nil (fun _ => pass_takes (takes_of rfl rfl rfl rfl)) (pa_cons (pv 0) (pa_cons (pv 1) (pa_cons (pv 2) pa_nil)))))
 (pss_cons (ps_par (i := 5) (j := 6) (by rfl) sc_l_right.nd rfl rfl (by decide) rfl rfl (pa_cons (ge_call (ok_l_names T) hgu (hr.mono (by decide)) rfl T.g_l_names T.k_l_names T.b_l_names .nil (fun _ => pass_takes (takes_of rfl rfl rfl rfl)) (pa_cons (pv 0) (pa_cons pe_int pa_nil))) (pa_cons (ge_call (ok_l_names T) hgu (hr.mono (by decide)) rfl T.g_l_names T.k_l_names T.b_l_names .nil (fun _ => pass_takes (takes_of rfl rfl rfl rfl)) (pa_cons (pv 0) (pa_cons pe_int pa_nil))) pa_nil)) (by rfl))
 (pss_cons (ps_set (i := 7) sc_l_right.nd rfl (Or.inl rfl) (ge_call (ok_l_rows T) hgu (hr.mono (by decide)) rfl T.g_l_rows T.k_l_rows T.b_l_rows .nil (fun _ => pass_takes (takes_of rfl rfl rfl rfl)) (pa_cons (pv 4) (pa_cons (pv 5) (pa_cons (pe_slice sl_U (pv 6) po_none (po_some pe_int)) (pa_cons pe_int pa_nil))))))
 (pss_cons (ps_set (i := 8) sc_l_right.nd rfl (Or.inl rfl) (ge_call (ok_l_rows T) hgu (hr.mono (by decide)) rfl T.g_l_rows T.k_l_rows T.b_l_rows .nil (fun _ => pass_takes (takes_of rfl rfl rfl rfl)) (pa_cons (pv 4) (pa_cons (pe_revL (pv 5)) (pa_cons (pe_slice sl_U (pe_revL (pv 6)) po_none (po_some pe_int)) (pa_cons (pv 2) pa_nil))))))
 (pss_cons (ps_par (i := 9) (j := 10) (by rfl) sc_l_right.nd rfl rfl (by decide) rfl rfl (pa_cons (ge_makeN T.mk_Year (ok_Year_init T) hgu (hr.mono (by decide)) rfl T.g_Year T.kb_Year_init_2 (fun _ => pass_takes (takes_of rfl rfl rfl rfl)) (pa_cons (pv 1) pa_nil) pk_nil) (pa_cons (ge_makeN T.mk_Year (ok_Year_init T) hgu (hr.mono (by decide)) rfl T.g_Year T.kb_Year_init_2 (fun _ => pass_takes (takes_of rfl rfl rfl rfl)) (pa_cons (pe_op op_addU (pv 3) (pv 1)) pa_nil) pk_nil) pa_nil)) (by rfl))
 (pss_cons (ps_set (i := 11) sc_l_right.nd rfl (Or.inl rfl) (ge_call (ok_l_own T) hgu (hr.mono (by decide)) rfl T.g_l_own T.k_l_own T.b_l_own .nil (fun _ => pass_takes (takes_of rfl rfl rfl rfl)) (pa_cons (pv 4) (pa_cons (pv 1) pa_nil))))
 (pss_cons (ps_if (pt_cmpR (op_neU hr.units) (pe_callB (call_repr hgu hr T.sys) (by rfl) T.n_repr boot_repr (pa_cons (ge_call (ok_l_told T) hgu (hr.mono (by decide)) rfl T.g_l_told T.k_l_told T.b_l_told .nil (fun _ => pass_takes (takes_of rfl rfl rfl rfl)) (pa_cons (pv 7) (pa_cons (pv 9) pa_nil))) pa_nil)) (pe_callB (call_repr hgu hr T.sys) (by rfl) T.n_repr boot_repr (pa_cons (pv 11) pa_nil)) (nomark _)) (pss_one (ps_ret pe_bl)) pss_nil)
 (pss_cons (ps_if (pt_cmpR (op_neU hr.units) (pe_callB (call_repr hgu hr T.sys) (by rfl) T.n_repr boot_repr (pa_cons (ge_call (ok_l_told T) hgu (hr.mono (by decide)) rfl T.g_l_told T.k_l_told T.b_l_told .nil (fun _ => pass_takes (takes_of rfl rfl rfl rfl)) (pa_cons (pv 8) (pa_cons (pv 10) pa_nil))) pa_nil)) (pe_callB (call_repr hgu hr T.sys) (by rfl) T.n_repr boot_repr (pa_cons (pe_lc (own := [("told", 17)]) rfl sc_l_right.nd (pi_list (pv 11)) (blkOk_by (own := [("told", 17)]) (N := ["box", "weeks", "by", "ahead", "cards", "names", "kins", "first", "second", "year", "other", "own", "week", "warmth", "cold", "found", "k", "told", "thing", "words", "at", "one", "two"]) (sc := defScope s_l_right) (by decide +kernel)) (fun _ _ _ _ _ => (pg_name (i := 17) sc_l_right.nd rfl (by first | exact Or.inl rfl | exact Or.inr rfl))) (fun _ _ _ _ _ => pts_nil) (fun _ _ _ _ _ => (pe_lc (own := [("thing", 18)]) rfl sc_l_right.nd (pi_listC (K := K) (pv 17) rfl) (blkOk_by (own := [("thing", 18)]) (N := ["box", "weeks", "by", "ahead", "cards", "names", "kins", "first", "second", "year", "other", "own", "week", "warmth", "cold", "found", "k", "told", "thing", "words", "at", "one", "two"]) (by rfl)) (fun _ _ _ _ _ => (pg_name (i := 18) sc_l_right.nd rfl (by first | exact Or.inl rfl | exact Or.inr rfl))) (fun _ _ _ _ _ => pts_nil) (fun _ _ _ _ _ => (ge_call (ok_l_later T) hgu (hr.mono (by decide)) rfl T.g_l_later T.k_l_later T.b_l_later .nil (fun _ => pass_none) (pa_cons (pv 18) (pa_cons (pv 2) pa_nil))))))) pa_nil)) (nomark _)) (pss_one (ps_ret pe_bl)) pss_nil)
 (pss_cons (ps_if (pt_cmpR (op_neU hr.units) (pe_callB (call_repr hgu hr T.sys) (by rfl) T.n_repr boot_repr (pa_cons (ge_call (ok_week_heads T) hgu (hr.mono (by decide)) rfl T.g_week_heads T.k_week_heads T.b_week_heads .nil (fun _ => pass_takes (takes_of rfl rfl rfl rfl)) (pa_cons (pv 8) (pa_cons (pv 10) pa_nil))) pa_nil)) (pe_callB (call_repr hgu hr T.sys) (by rfl) T.n_repr boot_repr (pa_cons (pe_op op_addU (pe_op op_mulU (pe_lst (pa_cons pe_int pa_nil)) (pv 2)) (ge_call (ok_week_heads T) hgu (hr.mono (by decide)) rfl T.g_week_heads T.k_week_heads T.b_week_heads .nil (fun _ => pass_takes (takes_of rfl rfl rfl rfl)) (pa_cons (pv 7) (pa_cons (pv 9) pa_nil)))) pa_nil)) (nomark _)) (pss_one (ps_ret pe_bl)) pss_nil)
 (pss_cons (ps_if (pt_cmpR (op_neU hr.units) (pe_callB (call_repr hgu hr T.sys) (by rfl) T.n_repr boot_repr (pa_cons (ge_call (ok_l_states T) hgu (hr.mono (by decide)) rfl T.g_l_states T.k_l_states T.b_l_states .nil (fun _ => pass_takes (takes_of rfl rfl rfl rfl)) (pa_cons (pv 8) (pa_cons (pv 10) pa_nil))) pa_nil)) (pe_callB (call_repr hgu hr T.sys) (by rfl) T.n_repr boot_repr (pa_cons (pe_lc (own := [("words", 19)]) rfl sc_l_right.nd (pi_list (ge_call (ok_l_states T) hgu (hr.mono (by decide)) rfl T.g_l_states T.k_l_states T.b_l_states .nil (fun _ => pass_takes (takes_of rfl rfl rfl rfl)) (pa_cons (pv 7) (pa_cons (pv 9) pa_nil)))) (blkOk_by (own := [("words", 19)]) (N := ["box", "weeks", "by", "ahead", "cards", "names", "kins", "first", "second", "year", "other", "own", "week", "warmth", "cold", "found", "k", "told", "thing", "words", "at", "one", "two"]) (sc := defScope s_l_right) (by decide +kernel)) (fun _ _ _ _ _ => (pg_name (i := 19) sc_l_right.nd rfl (by first | exact Or.inl rfl | exact Or.inr rfl))) (fun _ _ _ _ _ => pts_nil) (fun _ _ _ _ _ => (pe_op op_addU (pe_op op_mulU (pe_lst (pa_cons pe_str pa_nil)) (pv 2)) (pv 19)))) pa_nil)) (nomark _)) (pss_one (ps_ret pe_bl)) pss_nil)
 (pss_cons (ps_par3 (i := 12) (j := 13) (l := 14) (by rfl) sc_l_right.nd rfl rfl rfl (by decide) (by decide) (by decide) rfl rfl rfl (pa_cons (pe_op op_addU pe_int (ge_call (ok_l_take T) hgu (hr.mono (by decide)) rfl T.g_l_take T.k_l_take T.b_l_take .nil (fun _ => pass_takes (takes_of rfl rfl rfl rfl)) (pa_cons (pv 0) (pa_cons (pe_callB (call_lenU) (by rfl) T.n_len boot_len (pa_cons (pv 1) pa_nil)) pa_nil)))) (pa_cons (ge_call (ok_l_take T) hgu (hr.mono (by decide)) rfl T.g_l_take T.k_l_take T.b_l_take .nil (fun _ => pass_takes (takes_of rfl rfl rfl rfl)) (pa_cons (pv 0) (pa_cons pe_int pa_nil))) (pa_cons (pe_op op_sub (ge_call (ok_l_take T) hgu (hr.mono (by decide)) rfl T.g_l_take T.k_l_take T.b_l_take .nil (fun _ => pass_takes (takes_of rfl rfl rfl rfl)) (pa_cons (pv 0) (pa_cons pe_int pa_nil))) pe_int) pa_nil))) (by rfl))
 (pss_cons (ps_setLc (i := 15) (own := [("at", 20), ("one", 21), ("two", 22)]) rfl sc_l_right.nd rfl rfl (sw_true rfl rfl rfl (by decide +kernel)) (pi_list (ge_callN (ok_moved T) hgu (hr.mono (by decide)) rfl T.g_moved T.k_moved T.kb_moved_5 (fun _ => pass_takes (takes_of rfl rfl rfl rfl)) (pa_cons (pv 7) (pa_cons (pv 9) (pa_cons (pv 12) (pa_cons (pv 13) (pa_cons (pv 14) pa_nil))))) pk_nil)) (blkOk_by (own := [("at", 20), ("one", 21), ("two", 22)]) (N := ["box", "weeks", "by", "ahead", "cards", "names", "kins", "first", "second", "year", "other", "own", "week", "warmth", "cold", "found", "k", "told", "thing", "words", "at", "one", "two"]) (sc := defScope s_l_right) (by decide +kernel)) (fun _ _ _ _ _ => (pg_tupC (K := K) (n := 3) (by rfl) (pgs_cons (pg_name (i := 20) sc_l_right.nd rfl (by first | exact Or.inl rfl | exact Or.inr rfl)) (pgs_cons (pg_name (i := 21) sc_l_right.nd rfl (by first | exact Or.inl rfl | exact Or.inr rfl)) (pgs_cons (pg_name (i := 22) sc_l_right.nd rfl (by first | exact Or.inl rfl | exact Or.inr rfl)) pgs_nil))) (by rfl) (by rfl) rfl)) (fun _ _ _ _ _ => pts_nil) (fun _ _ _ _ _ => (pe_tup (pa_cons (pv 20) (pa_cons (ge_call (ok_l_later T) hgu (hr.mono (by decide)) rfl T.g_l_later T.k_l_later T.b_l_later .nil (fun _ => pass_none) (pa_cons (pv 21) (pa_cons (pv 2) pa_nil))) (pa_cons (ge_call (ok_l_later T) hgu (hr.mono (by decide)) rfl T.g_l_later T.k_l_later T.b_l_later .nil (fun _ => pass_none) (pa_cons (pv 22) (pa_cons (pv 2) pa_nil))) pa_nil))))))
 (pss_cons (ps_if (pt_cmpR (op_neU hr.units) (pe_callB (call_repr hgu hr T.sys) (by rfl) T.n_repr boot_repr (pa_cons (ge_callN (ok_moved T) hgu (hr.mono (by decide)) rfl T.g_moved T.k_moved T.kb_moved_5 (fun _ => pass_takes (takes_of rfl rfl rfl rfl)) (pa_cons (pv 8) (pa_cons (pv 10) (pa_cons (pe_op op_addU (pv 12) (pv 2)) (pa_cons (pv 13) (pa_cons (pv 14) pa_nil))))) pk_nil) pa_nil)) (pe_callB (call_repr hgu hr T.sys) (by rfl) T.n_repr boot_repr (pa_cons (pv 15) pa_nil)) (nomark _)) (pss_one (ps_ret pe_bl)) pss_nil)
 (pss_one (ps_ret (ge_call (ok_l_stays_right T) hgu (hr.mono (by decide)) rfl T.g_l_stays_right T.k_l_stays_right T.b_l_stays_right .nil (fun _ => pass_takes (takes_of rfl rfl rfl rfl)) (pa_cons (pv 0) (pa_cons (pv 7) (pa_cons (pv 8) (pa_cons (pe_lst (pa_cons (pe_slice sl_U (pv 6) po_none (po_some pe_int)) (pa_cons (pe_slice sl_U (pe_revL (pv 6)) po_none (po_some pe_int)) pa_nil))) (pa_cons (pv 2) pa_nil)))))))))))))))))))))))), ?_⟩)
  · obtain ⟨b, R, D, x, y, z, n, rfl, _⟩ := h
    rfl
  · obtain ⟨b, R, D, x, y, z, n, rfl, hI, bo, hn, go⟩ := h
    wtm_at "go"
    wtm_at "sm"
    refine lweeks_use hI bo (by omega) (fun wl xs ws x1 y1 z1 n1 H1 D1 hI1 ex1 bo1 hn1 ew pl w0 w52 wo => ?_)
    have hxl := pl.length
    wtm_at "sm"
    rename_i by_ x2 y2 z2 H2 hI2 bo2 by0 by1
    obtain ⟨B, rfl⟩ := Int.eq_ofNat_of_zero_le by0
    refine lc_rng (fun j acc R' D' => ∃ (as : List (Int × Int)) (x y z : Int) (n' : Nat), R' = (b, bx x y z) :: R ∧ BoxOk n' x y z ∧ n' ≤ n1 + 1 + 2 * j ∧ Ex D1 D' ∧ as.length = j ∧ PairsL D' acc as ∧ ∀ q ∈ as, WOk q) hI2 ⟨[], _, _, _, _, rfl, bo2, by omega, Ex.refl _, rfl, .nil, all_n⟩ (fun L j acc R' D' H' hj hI' p hl => ?_) (fun La acc R' D' H' hI' p hl => ?_)
    · obtain ⟨as, x3, y3, z3, n3, rfl, bo3, hn3, xq, asl, pa, wa⟩ := p
      wtm_at "sm"
      rename_i r x4 y4 z4 H4 hI4 bo4 r0 r1 s x5 y5 z5 H5 hI5 bo5 s0 s1 pt Ht Dt hIt xt et
      refine le_mk (by first | exact hIt | exact hIt.swap) ⟨as ++ [(r, s - 60)], _, _, _, _, rfl, bo5, by omega, xq.trans xt, by rw [List.length_append, asl]; rfl, (pa.mono xt).snoc ⟨pt, rfl, et⟩, fun q hq => ?_⟩ hl (by omega)
      rcases List.mem_append.mp hq with h | h
      · exact wa q h
      · rw [List.mem_singleton.mp h]
        exact ⟨r0, by show r ≤ 400; omega, by show -60 ≤ s - 60; omega, by show s - 60 ≤ 60; omega⟩
    · obtain ⟨as, x3, y3, z3, n3, rfl, bo3, hn3, xq, asl, pa, wa⟩ := p
      have asB : as.length = B := by omega
      obtain ⟨D3, hI3, x3', eLa⟩ := hI'.fr1
      have x13 := xq.trans x3'
      have ew3 := x13 _ _ ew
      wtm_at "sm"
      refine ⟨b, wl, B, xs, R, D3, x3, y3, z3, n3, rfl, hI3, bo3, by omega, ew3, by omega, by omega, by omega, by omega, fun pc cs x6 y6 z6 n6 H6 D6 hI6 ex6 bo6 hn6 ec c1 c6 hcs => ?_⟩
      wtm_at "sm"
      refine lnames_use hI6 bo6 (by omega) (by decide) (by decide) (fun pn ys x7 y7 z7 n7 H7 D7 hI7 ex7 bo7 hn7 en lys hys dys => ?_)
      wtm_at "sm"
      refine lnames_use hI7 bo7 (by omega) (by decide) (by decide) (fun pk ks x8 y8 z8 n8 H8 D8 hI8 ex8 bo8 hn8 ek lks hks dks => ?_)
      obtain ⟨k0, k1, k2, k3, rfl⟩ : ∃ k0 k1 k2 k3, ks = [k0, k1, k2, k3] := by
        match ks, lks with
        | [a, b, c, d], _ => exact ⟨a, b, c, d, rfl⟩
      have dk := dks (by decide)
      clear dks lks dys
      have nk0 := hks k0 (by simp)
      have nk1 := hks k1 (by simp)
      have nk2 := hks k2 (by simp)
      have nk3 := hks k3 (by simp)
      have d01 : k0 ≠ k1 := fun e => by simp [e] at dk
      have d32 : k3 ≠ k2 := fun e => by simp [e] at dk
      clear dk hks
      have x78 := ex7.trans ex8
      have en8 := ex8 _ _ en
      have ec8 := x78 _ _ ec
      have hcs8 : ∀ c ∈ cs, CrdAt D8 B c.1 c.2 := fun c hc => (hcs c hc).mono x78
      have x18 := (x13.trans ex6).trans x78
      have ew8 := x18 _ _ ew
      have pl8 := pl.mono x18
      have eLa8 := (ex6.trans x78) _ _ eLa
      have pa8 := pa.mono ((x3'.trans ex6).trans x78)
      clear hI hI1 hI2 hI3 hI' hI6 hI7
      wtm_at "sm"
      refine RSl.lst (hI8.dat ek) ?_
      wtm_at "sm"
      rename_i pka H9 D9 hI9 x9 eka
      have eka' : D9 pka = some (.lst ([k0, k1].map V.str)) := eka
      refine lrowsC_use (by2 := B) (ks := [k0, k1]) hI9 (x9 _ _ ec8) c6 (fun c hc => (hcs8 c hc).mono x9) (Int.le_refl _) (by omega) (by omega) (x9 _ _ en8) (by omega) hys eka' (Nat.le_of_ble_eq_true rfl) (all_c nk0 (all_c nk1 all_n)) (fun pf fs H10 D10 hI10 x10 ef hfs hf => ?_)
      wtm_at "sm"
      rename_i pnr H11 D11 hI11 x11 enr pkr H12 D12 hI12 x12 ekr
      refine RSl.lst (hI12.dat ekr) ?_
      wtm_at "sm"
      rename_i pkb H13 D13 hI13 x13' ekb
      have ekb' : D13 pkb = some (.lst ([k3, k2].map V.str)) := ekb
      have enr' : D11 pnr = some (.lst (ys.reverse.map V.str)) := by rw [List.map_reverse]; exact enr
      have x913 : Ex D9 D13 := x10.trans (x11.trans (x12.trans x13'))
      have x813 := x9.trans x913
      refine lrowsC_use (by2 := B) (ks := [k3, k2]) (ys := ys.reverse) hI13 (x813 _ _ ec8) c6 (fun c hc => (hcs8 c hc).mono x813) (by omega) (Int.le_refl _) (by omega) ((x12.trans x13') _ _ enr') (by rw [List.length_reverse]; omega) (fun y hy => hys y (List.mem_reverse.mp hy)) ekb' (Nat.le_of_ble_eq_true rfl) (all_c nk3 (all_c nk2 all_n)) (fun ps ss H14 D14 hI14 x14 es hss hs => ?_)
      have x8 : Ex D8 D14 := x813.trans x14
      have x10' : Ex D10 D14 := x11.trans (x12.trans (x13'.trans x14))
      have ef14 := x10' _ _ ef
      have hf14 : ∀ r ∈ fs, IsRow K D14 r.1 r.2 := fun r hr => (hf r hr).mono x10'
      have ek14 := x8 _ _ ek
      have ec14 := x8 _ _ ec8
      have hcs14 : ∀ c ∈ cs, CrdAt D14 B c.1 c.2 := fun c hc => (hcs8 c hc).mono x8
      have ew14 := x8 _ _ ew8
      have pl14 := pl8.mono x8
      have eLa14 := x8 _ _ eLa8
      have pa14 := pa8.mono x8
      have x014 : Ex D D14 := ex1.trans (x18.trans x8)
      have hal := pa.length
      clear hI8 hI9 hI10 hI11 hI12 hI13 enr enr' ekr ekb ekb' eka eka' x913 x813 x10' x8 x9 x10 x11 x12 x13' x14 hf ef en8 ec8 hcs8 ew8 pl8 eLa8 pa8 x18 x78 ex7 ex8 ex6 ex1 hcs ec ew3 x13 x3' eLa xq pa pl ew en
      wtm_at "sm"
      refine make_yr (by assumption) (.l ew14) pl14 w0 w52 wo (fun nl1 td1 H15 D15 hI15 x15 iy1 => ?_)
      wtm_at "sm"
      rename_i ya _ _ _
      refine RAdd.lst (hI15.dat (x15 _ _ eLa14)) (hI15.dat (x15 _ _ ew14)) (small_ok (by omega)) ?_
      wtm_at "sm"
      rename_i pw H16 D16 hI16 x16 epw yb dyb Hb hIb
      refine make_yr hIb (.l epw) ((pl14.mono (x15.trans x16)).app (pa14.mono (x15.trans x16))) (by rw [List.length_append]; omega) (by rw [List.length_append]; omega) (fun q hq => (List.mem_append.mp hq).elim (wa q) (wo q)) (fun nl2 td2 H17 D17 hI17 x17 iy2 => ?_)
      have x1517 : Ex D15 D17 := x16.trans x17
      have x1417 : Ex D14 D17 := x15.trans x1517
      have iy1' := iy1.mono x1517
      have ef17 := x1417 _ _ ef14
      have es17 := x1417 _ _ es
      have ek17 := x1417 _ _ ek14
      have ec17 := x1417 _ _ ec14
      have hf17 : ∀ r ∈ fs, IsRow K D17 r.1 r.2 := fun r hr => (hf14 r hr).mono x1417
      have hs17 : ∀ r ∈ ss, IsRow K D17 r.1 r.2 := fun r hr => (hs r hr).mono x1417
      have hcs17 : ∀ c ∈ cs, CrdAt D17 B c.1 c.2 := fun c hc => (hcs14 c hc).mono x1417
      have ew17 := x1417 _ _ ew14
      have pl17 := pl14.mono x1417
      have x017 := x014.trans x1417
      clear hIb hI14 hI15 hI16 epw iy1 ef14 es ek14 ec14 hf14 hs hcs14 ew14 pl14 eLa14 pa14 x014 x1417 x1517 x15 x16 x17
      have fl : fs.length = cs.length := by
        have := congrArg List.length hfs
        rw [List.length_map, List.length_map] at this
        exact this
      have sl : ss.length = cs.length := by
        have := congrArg List.length hss
        rw [List.length_map, List.length_map] at this
        exact this
      have hcq : ∀ c ∈ cs, 1 ≤ c.2.w ∧ 1 ≤ c.2.q.k := fun c hc => by
        obtain ⟨_, _, _, _, ⟨_, _, _, qok, _⟩, _, _, cw0, _⟩ := hcs17 c hc
        exact ⟨cw0, qok.2.2.1⟩
      have hcw : ∀ c ∈ cs, c.2.w ≤ 52 - B ∧ (c.2.kp = 0 ∨ c.2.kp = 1) := fun c hc => by
        obtain ⟨_, _, _, _, ⟨_, _, _, _, kp01⟩, _, _, _, cw1, _⟩ := hcs17 c hc
        exact ⟨cw1, kp01⟩
      have lat0 : Lat (stand ws fun _ => none) (stand (as ++ ws) fun _ => none) B ws.length := lat_app asB
      have e17 : (((as ++ ws).length : Nat) : Int) = (ws.length : Int) + B := by
        rw [List.length_append, asB]
        omega
      have t0 : ∀ {D : Hp} {n : Int}, Told D [] (fun _ => none) n := fun {D n} => ⟨fun _ _ => rfl, (fun _ _ h => nomatch h), [], rfl, .nil, (fun _ h => nomatch h)⟩
      wtm_at "sm"
      refine lown_use hI17 ec17 c6 (Int.ofNat_nonneg B) hcs17 ew17 pl17 w52 (fun po vo H18 D18 hI18 x18 eo ro => ?_)
      have iy1a := iy1'.mono x18
      have iy2a := iy2.mono x18
      have yr1 : YrAt K ((td2, .dK []) :: (td1, .dK []) :: (b, bx x8 y8 z8) :: R) D18 ya (stand ws fun _ => none) ws.length := iy1a.at (List.mem_cons_of_mem _ (List.mem_cons_self ..)) t0
      have yr2 : YrAt K ((td2, .dK []) :: (td1, .dK []) :: (b, bx x8 y8 z8) :: R) D18 yb (stand (as ++ ws) fun _ => none) ((ws.length : Int) + B) := by
        have := iy2a.at (R := (td2, .dK []) :: (td1, .dK []) :: (b, bx x8 y8 z8) :: R) (List.mem_cons_self ..) (t0 (D := D18) (n := ((as ++ ws).length : Nat)))
        rw [e17] at this
        exact this
      have ef18 := x18 _ _ ef17
      have es18 := x18 _ _ es17
      have hf18 : ∀ r ∈ fs, IsRow K D18 r.1 r.2 := fun r hr => (hf17 r hr).mono x18
      have hs18 : ∀ r ∈ ss, IsRow K D18 r.1 r.2 := fun r hr => (hs17 r hr).mono x18
      wtm_at "sm"
      refine ltoldC_use hI18 ef18 (by omega) hf18 yr1 (fun v19 H19 D19 hI19 x19 r19 => ?_)
      have td1e : (fs.map fun r => tellD (stand ws fun _ => none) ws.length ⟨r.2.s.n, r.2.s.k, r.2.s.b⟩ r.2.w) = cs.map fun c => tellD (FW ws) ws.length c.2.q c.2.w := by
        rw [map_of hfs fun r => tellD (stand ws fun _ => none) ws.length ⟨r.s.n, r.s.k, r.s.b⟩ r.w]
        refine List.map_congr_left fun c _ => ?_
        show tellD (FW ws) ws.length c.2.q (c.2.w + 0) = _
        rw [Int.add_zero]
      rw [td1e] at r19
      have smT : Sm (.list (cs.map fun c => tellD (FW ws) ws.length c.2.q c.2.w)) 4000 3 := by
        refine (Sm.list (n := 500) (k := 2) fun d hd => ?_).mono ?_ (Nat.le_refl _)
        · obtain ⟨c, hc, rfl⟩ := List.mem_map.mp hd
          exact sm_tellD (by omega) (hcq c hc).1 (hcq c hc).2
        · rw [List.length_map]
          omega
      wtm_at "sm"
      refine repr_sm (hI19.rep r19) smT (by decide) (by decide) ?_
      wtm_at "sm"
      refine repr_sm (hI19.rep (.lst (x19 _ _ eo) (ro.mono x19))) smT (by decide) (by decide) ?_
      refine rne_same ?_
      wtm_at "sm"
      refine ltoldC_use hI19 (x19 _ _ es18) (by omega) (fun r hr => (hs18 r hr).mono x19) (yr2.mono x19) (fun v20 H20 D20 hI20 x20 r20 => ?_)
      have td2e : (ss.map fun r => tellD (stand (as ++ ws) fun _ => none) ((ws.length : Int) + B) ⟨r.2.s.n, r.2.s.k, r.2.s.b⟩ r.2.w) = cs.map fun c => latD B (FW ws) ws.length c.2.q c.2.w := by
        rw [map_of hss fun r => tellD (stand (as ++ ws) fun _ => none) ((ws.length : Int) + B) ⟨r.s.n, r.s.k, r.s.b⟩ r.w]
        refine List.map_congr_left fun c hc => ?_
        exact tellD_lat (q := c.2.q) (w := c.2.w) lat0 (hcq c hc).1 (hcq c hc).2
      have smT2 : Sm (.list (cs.map fun c => latD B (FW ws) ws.length c.2.q c.2.w)) 4000 3 := by
        rw [← td2e, map_of hss fun r => tellD (stand (as ++ ws) fun _ => none) ((ws.length : Int) + B) ⟨r.s.n, r.s.k, r.s.b⟩ r.w]
        refine (Sm.list (n := 500) (k := 2) fun d hd => ?_).mono ?_ (Nat.le_refl _)
        · obtain ⟨c, hc, rfl⟩ := List.mem_map.mp hd
          exact sm_tellD (by omega) (by have := (hcq c hc).1; show 1 ≤ c.2.w + B; omega) (hcq c hc).2
        · rw [List.length_map]
          omega
      rw [td2e] at r20
      clear td1e td2e r19 hI17 hI18 iy1' iy2
      wtm_at "sm"
      refine repr_sm (hI20.rep r20) smT2 (by decide) (by decide) ?_
      have x1820 := x19.trans x20
      have eo20 := x1820 _ _ eo
      have ro20 := ro.mono x1820
      clear r20 ro eo
      have vol : vo.length = cs.length := by
        have := ro20.length
        rw [List.length_map] at this
        exact this
      wtm_at "sm"
      refine lc_lst (xs := vo) (fun j acc R' D' => R' = (td2, .dK []) :: (td1, .dK []) :: (b, bx x8 y8 z8) :: R ∧ Ex D20 D' ∧ acc.length = j ∧ RepL D' acc ((cs.take j).map fun c => latD B (FW ws) ws.length c.2.q c.2.w)) hI20 ⟨rfl, Ex.refl _, rfl, .nil⟩ (fun j acc R' D' q => ?_) (fun L j acc v R' D' H' hv hI' q hl => ?_) (fun L acc R' D' H' hI' q hl => ?_)
      · exact q.2.1 _ _ eo20
      · obtain ⟨rfl, xq, hal', hrep⟩ := q
        obtain ⟨d, hd, rd⟩ := (ro20.mono xq).get hv
        rw [List.getElem?_map] at hd
        obtain ⟨c, hc, rfl⟩ := Option.map_eq_some_iff.mp hd
        obtain ⟨p, v4, es', rfl, ep, ee, pr, l4⟩ := told_open (by_ := B) rd
        have hj := (List.getElem?_eq_some_iff.mp hv).1
        wtm_at "sm"
        refine lc_lst (xs := v4) (fun j2 acc2 R2 D2 => R2 = (L, HO.lst acc) :: (td2, .dK []) :: (td1, .dK []) :: (b, bx x8 y8 z8) :: R ∧ Ex D' D2 ∧ acc2.length = j2 ∧ RepL D2 acc2 (es'.take j2)) hI' ⟨rfl, Ex.refl _, rfl, .nil⟩ (fun j2 acc2 R2 D2 q2 => ?_) (fun L2 j2 acc2 v2 R2 D2 H2 hv2 hI2 q2 hl2 => ?_) (fun L2 acc2 R2 D2 H2 hI2 q2 hl2 => ?_)
        · exact q2.2.1 _ _ ep
        · obtain ⟨rfl, xq2, hal2, hrep2⟩ := q2
          obtain ⟨e, he, lt⟩ := paired_get pr hv2
          have hj2 := (List.getElem?_eq_some_iff.mp hv2).1
          wtm_at "sm"
          refine llater_use hI2 (lt.mono xq2) (fun v' H3 D3 hI3 x3 r3 => ?_)
          refine le_mk hI3 ⟨rfl, xq2.trans x3, by rw [List.length_append, hal2]; rfl, ?_⟩ hl2 (by omega)
          rw [take_more he]
          exact (hrep2.mono x3).snoc r3
        · obtain ⟨rfl, xq2, hal2, hrep2⟩ := q2
          obtain ⟨DF, hF, xF, eF⟩ := hI2.fr1
          have xall := xq2.trans xF
          refine le_mk hF ⟨rfl, xq.trans xall, by rw [List.length_append, hal']; rfl, ?_⟩ hl (by omega)
          rw [take_more hc, List.map_append]
          refine (hrep.mono xall).snoc ?_
          have el : es'.length = v4.length := pr.length.symm
          rw [← el, List.take_length] at hrep2
          show Rep DF (.ref L2) (latD B (FW ws) ws.length c.2.q c.2.w)
          rw [ee]
          exact .lst eF (hrep2.mono xF)
      · obtain ⟨rfl, xq, hal', hrep⟩ := q
        rw [vol, List.take_length] at hrep
        obtain ⟨D21, hI21, x21, e21⟩ := hI'.fr1
        wtm_at "sm"
        refine repr_sm (hI21.rep (.lst e21 (hrep.mono x21))) smT2 (by decide) (by decide) ?_
        refine rne_same ?_
        have x18b := x1820.trans (xq.trans x21)
        have iy1b := iy1a.mono x18b
        have iy2b := iy2a.mono x18b
        have yr1b := yr1.mono x18b
        have yr2b := yr2.mono x18b
        have ef21 := x18b _ _ ef18
        have es21 := x18b _ _ es18
        have hf21 : ∀ r ∈ fs, IsRow K D21 r.1 r.2 := fun r hr => (hf18 r hr).mono x18b
        have hs21 : ∀ r ∈ ss, IsRow K D21 r.1 r.2 := fun r hr => (hs18 r hr).mono x18b
        have ek21 := x18b _ _ (x18 _ _ ek17)
        have ew21 := x18b _ _ (x18 _ _ ew17)
        have x021 := x017.trans (x18.trans x18b)
        clear hI' hI19 hI20 x18b x1820 hrep iy1a iy2a yr1 yr2 ef18 es18 hf18 hs18 ek17 x017 x18 x19 x20 xq x21 e21 eo20 ro20 smT smT2 ef17 es17 ec17 hf17 hs17 hcs17 ew17 pl17
        wtm_at "sm"
        refine week_heads_use hI21 ⟨.l es21, hs21, by omega⟩ yr2b (fun q2 H22 D22 hI22 x22 => ?_)
        wtm_at "sm"
        have fsnd : fs.map Prod.snd = cs.map fun c => rwOf ys [k0, k1] 0 c.2 := hfs
        have ssnd : ss.map Prod.snd = cs.map fun c => rwOf ys.reverse [k3, k2] B c.2 := hss
        have hhs := (show RsAt K R D21 ps ss from ⟨.l es21, hs21, by omega⟩).hh
        have wk0 : wki (headsW (ss.map Prod.snd) (stand (as ++ ws) fun _ => none) ((ws.length : Int) + B)) ((ws.length : Int) + B).toNat = wki (fun _ => 0) (B : Int).toNat ++ wki (headsW (fs.map Prod.snd) (stand ws fun _ => none) ws.length) (ws.length : Int).toNat := by
          rw [fsnd, ssnd]
          exact wki_lat (by omega) (by omega) (fun k hk => heads_ahead lat0 hcq hk) (fun k => heads_lat lat0 hcq)
        have smH := sm_wki (f := stand (as ++ ws) fun _ => none) (n := (ws.length : Int) + B) (N := ((ws.length : Int) + B).toNat) hhs (by rw [List.length_map]; omega) (by omega)
        refine repr_sm (rep_wkl (hI22.get (List.mem_cons_self ..))) smH (by decide) (by decide) ?_
        rw [wk0] at smH ⊢
        obtain ⟨D23, hI23, x23, -⟩ := hI22.fr1
        have x2123 := x22.trans x23
        wtm_at "sm"
        rename_i pz H24 D24 hI24 x24 ez
        refine RMul.lst (hI24.dat ez) (by omega) (by omega) (small_ok (by show 1 * _ ≤ _; omega)) ?_
        rw [wkl_zero]
        wtm_at "sm"
        rename_i pz2 H25 D25 hI25 x25 ez2
        have x2125 := x2123.trans (x24.trans x25)
        refine week_heads_use hI25 ⟨.l (x2125 _ _ ef21), fun r hr => (hf21 r hr).mono x2125, by omega⟩ (yr1b.mono x2125) (fun q3 H26 D26 hI26 x26 => ?_)
        have l1 : (wkl (fun _ => 0) (B : Int).toNat).length = B := by rw [wkl_len]; omega
        have l2 : (wkl (headsW (fs.map Prod.snd) (stand ws fun _ => none) ws.length) (ws.length : Int).toNat).length = ws.length := by rw [wkl_len]; omega
        wtm_at "sm"
        refine RAdd.lst (hI26.dat (x26 _ _ ez2)) (hI26.get (List.mem_cons_self ..)) (small_ok (by omega)) ?_
        wtm_at "sm"
        rename_i pz3 H27 D27 hI27 x27 ez3
        rw [wki_map, wki_map, ← List.map_append] at ez3
        refine repr_sm (hI27.rep (.lst ez3 (ints_rep _))) smH (by decide) (by decide) ?_
        refine rne_same ?_
        have hI28 := hI27.drop
        have x2127 := x2125.trans (x26.trans x27)
        have iy1c := iy1b.mono x2127
        have iy2c := iy2b.mono x2127
        have yr1c := yr1b.mono x2127
        have yr2c := yr2b.mono x2127
        have ef27 := x2127 _ _ ef21
        have es27 := x2127 _ _ es21
        have hf27 : ∀ r ∈ fs, IsRow K D27 r.1 r.2 := fun r hr => (hf21 r hr).mono x2127
        have hs27 : ∀ r ∈ ss, IsRow K D27 r.1 r.2 := fun r hr => (hs21 r hr).mono x2127
        have ek27 := x2127 _ _ ek21
        have ew27 := x2127 _ _ ew21
        have x027 := x021.trans x2127
        clear hI21 hI22 hI23 hI24 hI25 hI26 hI27 ez ez2 ez3 x2127 x2125 x2123 x22 x23 x24 x25 x26 x27 iy1b iy2b yr1b yr2b ef21 es21 hf21 hs21 ek21 ew21 x021 smH wk0 l1 l2
        wtm_at "sm"
        refine lstates_use (n := ws.length + B) hI28 es27 (by omega) hs27 yr2c (by omega) (fun v29 H29 D29 hI29 x29 r29 => ?_)
        have st2 : (ss.map fun r => statD (stand (as ++ ws) fun _ => none) (ws.length + B) r.2) = cs.map fun c => PyData.list ((List.replicate B (Str.ofString "unsown") ++ stl (stand ws fun _ => none) ws.length c.2.w c.2.q.n c.2.q.k c.2.q.b).map PyData.str) := by
          rw [map_of hss fun r => statD (stand (as ++ ws) fun _ => none) (ws.length + B) r]
          refine List.map_congr_left fun c hc => ?_
          show PyData.list ((stl (stand (as ++ ws) fun _ => none) (ws.length + B) (c.2.w + B) c.2.q.n c.2.q.k c.2.q.b).map PyData.str) = _
          rw [Nat.add_comm, stl_lat lat0 (hcq c hc).1 (hcq c hc).2]
        have smS : Sm (.list (cs.map fun c => PyData.list ((List.replicate B (Str.ofString "unsown") ++ stl (stand ws fun _ => none) ws.length c.2.w c.2.q.n c.2.q.k c.2.q.b).map PyData.str))) 30000 2 := by
          rw [← st2]
          refine (Sm.list (n := 4000) (k := 1) fun d hd => ?_).mono ?_ (Nat.le_refl _)
          · obtain ⟨r, hr, rfl⟩ := List.mem_map.mp hd
            exact sm_stat (by omega)
          · rw [List.length_map]
            omega
        rw [st2] at r29
        clear st2
        wtm_at "sm"
        refine repr_sm (hI29.rep r29) smS (by decide) (by decide) ?_
        clear r29
        wtm_at "sm"
        refine lstates_use (n := ws.length) hI29 (x29 _ _ ef27) (by omega) (fun r hr => (hf27 r hr).mono x29) (yr1c.mono x29) w52 (fun v30 H30 D30 hI30 x30 r30 => ?_)
        have st1 : (fs.map fun r => statD (stand ws fun _ => none) ws.length r.2) = cs.map fun c => statD (stand ws fun _ => none) ws.length (rwOf ys [k0, k1] 0 c.2) := map_of hfs fun r => statD (stand ws fun _ => none) ws.length r
        rw [st1] at r30
        cases r30 with
        | @lst pst vst _ est rst =>
          have vsl : vst.length = cs.length := by
            have := rst.length
            rw [List.length_map] at this
            exact this
          wtm_at "sm"
          refine lc_lst (xs := vst) (fun j acc R' D' => R' = (td2, .dK []) :: (td1, .dK []) :: (b, bx x8 y8 z8) :: R ∧ Ex D30 D' ∧ acc.length = j ∧ RepL D' acc ((cs.take j).map fun c => PyData.list ((List.replicate B (Str.ofString "unsown") ++ stl (stand ws fun _ => none) ws.length c.2.w c.2.q.n c.2.q.k c.2.q.b).map PyData.str))) hI30 ⟨rfl, Ex.refl _, rfl, .nil⟩ (fun j acc R' D' q => ?_) (fun L j acc v R' D' H' hv hI' q hl => ?_) (fun L acc R' D' H' hI' q hl => ?_)
          · exact q.2.1 _ _ est
          · obtain ⟨rfl, xq, hal', hrep⟩ := q
            obtain ⟨d, hd, rd⟩ := (rst.mono xq).get hv
            rw [List.getElem?_map] at hd
            obtain ⟨c, hc, rfl⟩ := Option.map_eq_some_iff.mp hd
            have hj := (List.getElem?_eq_some_iff.mp hv).1
            obtain ⟨pw2, rfl, epw2⟩ := rep_stat rd
            have e0 : stl (stand ws fun _ => none) ws.length (rwOf ys [k0, k1] 0 c.2).w (rwOf ys [k0, k1] 0 c.2).s.n (rwOf ys [k0, k1] 0 c.2).s.k (rwOf ys [k0, k1] 0 c.2).s.b = stl (stand ws fun _ => none) ws.length c.2.w c.2.q.n c.2.q.k c.2.q.b := by
              show stl _ _ (c.2.w + 0) _ _ _ = _
              rw [Int.add_zero]
              rfl
            rw [e0] at epw2
            have lst : (stl (stand ws fun _ => none) ws.length c.2.w c.2.q.n c.2.q.k c.2.q.b).length = ws.length := by
              unfold stl
              rw [List.length_map, List.length_range]
            wtm_at "sm"
            rename_i pu Hu Du hIu xu eu
            refine RMul.lst (hIu.dat eu) (by omega) (by omega) (small_ok (by show 1 * _ ≤ _; omega)) ?_
            rw [flat_one, show ((B : Int)).toNat = B from Int.toNat_natCast B]
            wtm_at "sm"
            rename_i pu2 Hu2 Du2 hIu2 xu2 eu2
            refine RAdd.lst (hIu2.dat eu2) (hIu2.dat ((xu.trans xu2) _ _ epw2)) (small_ok (by rw [List.length_replicate, List.length_map]; omega)) ?_
            wtm_at "sm"
            rename_i pu3 Hu3 Du3 hIu3 xu3 eu3
            rw [show List.replicate B (V.str (Str.ofString "unsown")) = (List.replicate B (Str.ofString "unsown")).map V.str by rw [List.map_replicate], ← List.map_append] at eu3
            have xall := xu.trans (xu2.trans xu3)
            refine le_mk hIu3 ⟨rfl, xq.trans xall, by rw [List.length_append, hal']; rfl, ?_⟩ hl (by omega)
            rw [take_more hc, List.map_append]
            exact (hrep.mono xall).snoc (.lst eu3 (rep_strs _))
          · obtain ⟨rfl, xq, hal', hrep⟩ := q
            rw [vsl, List.take_length] at hrep
            obtain ⟨D31, hI31, x31, e31⟩ := hI'.fr1
            wtm_at "sm"
            refine repr_sm (hI31.rep (.lst e31 (hrep.mono x31))) smS (by decide) (by decide) ?_
            refine rne_same ?_
            have x2731 := x29.trans (x30.trans (xq.trans x31))
            have iy1d := iy1c.mono x2731
            have iy2d := iy2c.mono x2731
            have ef31 := x2731 _ _ ef27
            have es31 := x2731 _ _ es27
            have hf31 : ∀ r ∈ fs, IsRow K D31 r.1 r.2 := fun r hr => (hf27 r hr).mono x2731
            have hs31 : ∀ r ∈ ss, IsRow K D31 r.1 r.2 := fun r hr => (hs27 r hr).mono x2731
            have ek31 := x2731 _ _ ek27
            have ew31 := x2731 _ _ ew27
            have x031 := x027.trans x2731
            clear hI28 hI29 hI30 hI' iy1c iy2c yr1c yr2c ef27 es27 hf27 hs27 ek27 ew27 x027 x29 x30 xq x31 x2731 hrep smS rst est e31 st1
            wtm_at "sm"
            rename_i wk0' xA yA zA HA hIA boA wkA0 wkA1 wmA xB yB zB HB hIB boB wmB0 wmB1 cdA xC yC zC HC hIC boC cdA0 cdA1
            refine moved_use (co := some (cdA - 60)) hIC ef31 hf31 (by omega) iy1d (List.mem_cons_of_mem _ (List.mem_cons_of_mem _ (List.mem_cons_self ..))) t0 (by omega) (by omega) wmB0 (by omega) (fun x h => by cases h; omega) (fun qm xm HM DM hIM xM mvs => ?_)
            obtain ⟨D40, hI40, x40, e40⟩ := hIM.fr1
            wtm_at "sm"
            change MvsAt DM xm (movs (fs.map Prod.snd) (stand ws fun _ => none) (stand ws (putM (fun _ => none) (1 + wk0') (some (wmA, cdA - 60)))) ws.length) at mvs
            have hrok : ∀ r ∈ fs.map Prod.snd, r.Ok ∧ r.s.Ok := fun r hr => by
              obtain ⟨q, hq, rfl⟩ := List.mem_map.mp hr
              obtain ⟨ok, _, _, _, is⟩ := hf31 q hq
              exact ⟨ok, is.1⟩
            have hrok2 : ∀ r ∈ ss.map Prod.snd, r.Ok ∧ r.s.Ok := fun r hr => by
              obtain ⟨q, hq, rfl⟩ := List.mem_map.mp hr
              obtain ⟨ok, _, _, _, is⟩ := hs31 q hq
              exact ⟨ok, is.1⟩
            have ml := movs_len (rs := fs.map Prod.snd) (f := stand ws fun _ => none) (f' := stand ws (putM (fun _ => none) (1 + wk0') (some (wmA, cdA - 60)))) (n := ws.length)
            rw [List.length_map] at ml
            have mlat : movs (ss.map Prod.snd) (stand (as ++ ws) fun _ => none) (stand (as ++ ws) (putM (fun _ => none) (1 + wk0' + B) (some (wmA, cdA - 60)))) ((ws.length : Int) + B) = (movs (fs.map Prod.snd) (stand ws fun _ => none) (stand ws (putM (fun _ => none) (1 + wk0') (some (wmA, cdA - 60)))) ws.length).map (latM B) := by
              rw [fsnd, ssnd]
              exact movs_lat lat0 (lat_put asB) hcq
            have smM := sm_mvs (rs := ss.map Prod.snd) (f := stand (as ++ ws) fun _ => none) (f' := stand (as ++ ws) (putM (fun _ => none) (1 + wk0' + B) (some (wmA, cdA - 60)))) (n := (ws.length : Int) + B) (by omega) hrok2 (by rw [List.length_map]; omega)
            rw [mlat] at smM
            generalize movs (fs.map Prod.snd) (stand ws fun _ => none) (stand ws (putM (fun _ => none) (1 + wk0') (some (wmA, cdA - 60)))) ws.length = ts at mvs ml mlat smM
            have mvs40 := mvs.mono x40
            have xml : xm.length = ts.length := mvs.length
            refine lc_lst (xs := xm) (fun j acc R' D' => R' = (b, bx xC yC zC) :: (td2, .dK []) :: (td1, .dK []) :: R ∧ Ex D40 D' ∧ acc.length = j ∧ MvsAt D' acc ((ts.take j).map (latM B))) hI40 ⟨rfl, Ex.refl _, rfl, .nil⟩ (fun j acc R' D' q => ?_) (fun L j acc v R' D' H' hv hI' q hl => ?_) (fun L acc R' D' H' hI' q hl => ?_)
            · exact q.2.1 _ _ e40
            · obtain ⟨rfl, xq, hal', hrep⟩ := q
              obtain ⟨tt, htt, pv, pa', pb', rfl, epv, ca, cb⟩ := paired_get (mvs40.mono xq) hv
              have hj := (List.getElem?_eq_some_iff.mp hv).1
              wtm_at "sm"
              refine llaterC_use hI' ca (fun v1 H5 D5 hI5 x5 c1 => ?_)
              wtm_at "sm"
              refine llaterC_use hI5 (cb.mono x5) (fun v2 H6 D6 hI6 x6 c2 => ?_)
              wtm_at "sm"
              rename_i p7 H7 D7 hI7 x7 e7
              have xall := x5.trans (x6.trans x7)
              refine le_mk hI7 ⟨rfl, xq.trans xall, by rw [List.length_append, hal']; rfl, ?_⟩ hl (by omega)
              rw [take_more htt, List.map_append]
              exact paired_snoc ⟨p7, v1, v2, rfl, e7, c1.mono (x6.trans x7), c2.mono x7⟩ (hrep.mono xall)
            · obtain ⟨rfl, xq, hal', hrep⟩ := q
              rw [xml, List.take_length] at hrep
              obtain ⟨D41, hI41, x41, e41⟩ := hI'.fr1
              have mv41 := hrep.mono x41
              have x3141 := xM.trans (x40.trans (xq.trans x41))
              have iy2e := iy2d.mono x3141
              have ef41 := x3141 _ _ ef31
              have es41 := x3141 _ _ es31
              have hf41 : ∀ r ∈ fs, IsRow K D41 r.1 r.2 := fun r hr => (hf31 r hr).mono x3141
              have hs41 : ∀ r ∈ ss, IsRow K D41 r.1 r.2 := fun r hr => (hs31 r hr).mono x3141
              have ek41 := x3141 _ _ ek31
              have x041 := x031.trans x3141
              clear hIA hIB hIC hIM hI40 hI31 hI' iy1d iy2d ef31 es31 hf31 hs31 ek31 ew31 x031 xM x40 xq x41 x3141 mvs mvs40 hrep e40 hrok hrok2
              wtm_at "sm"
              refine moved_use (co := some (cdA - 60)) (k := 1 + wk0' + B) hI41 es41 hs41 (by omega) iy2e (List.mem_cons_of_mem _ (List.mem_cons_self ..)) t0 (by omega) (by rw [e17]; omega) wmB0 (by omega) (fun x h => by cases h; omega) (fun qm2 xm2 HM2 DM2 hIM2 xM2 mvs2 => ?_)
              rw [e17] at mvs2
              change MvsAt DM2 xm2 (movs (ss.map Prod.snd) (stand (as ++ ws) fun _ => none) (stand (as ++ ws) (putM (fun _ => none) (1 + wk0' + B) (some (wmA, cdA - 60)))) ((ws.length : Int) + B)) at mvs2
              rw [mlat] at mvs2
              obtain ⟨D42, hI42, x42, e42⟩ := hIM2.fr1
              wtm_at "sm"
              refine repr_sm (hI42.rep (.lst e42 (rep_mvs (mvs2.mono x42)))) smM (by decide) (by decide) ?_
              have x4142 := xM2.trans x42
              wtm_at "sm"
              refine repr_sm (hI42.rep (.lst (x4142 _ _ e41) (rep_mvs (mv41.mono x4142)))) smM (by decide) (by decide) ?_
              refine rne_same ?_
              have ek42 := x4142 _ _ ek41
              have ef42 := x4142 _ _ ef41
              have es42 := x4142 _ _ es41
              clear hIM2 hI41 mvs2 mv41 e41 e42 ek41 ef41 es41 smM mlat
              wtm_at "sm"
              refine RSl.lst (hI42.dat ek42) ?_
              wtm_at "sm"
              rename_i pA1 HA1 DA1 hIA1 xA1 eA1 pA2 HA2 DA2 hIA2 xA2 eA2
              refine RSl.lst (hIA2.dat eA2) ?_
              wtm_at "sm"
              rename_i pA3 HA3 DA3 hIA3 xA3 eA3 pA4 HA4 DA4 hIA4 xA4 eA4
              have x4244 : Ex D42 DA4 := xA1.trans (xA2.trans (xA3.trans xA4))
              have x4144 := x4142.trans x4244
              refine ⟨b, pf, ps, pA4, pA1, pA3, B, fs, ss, k0, k1, k3, k2, (td2, .dK []) :: (td1, .dK []) :: R, DA4, xC, yC, zC, _, rfl, hIA4, boC, by omega, x4244 _ _ ef42, x4244 _ _ es42, by omega, by omega, fun r hr => ⟨(hf41 r hr).mono x4144, ?_⟩, fun r hr => (hs41 r hr).mono x4144, by omega, by omega, by omega, eA4, (xA2.trans (xA3.trans xA4)) _ _ eA1, xA4 _ _ eA3, nk0, nk1, nk3, nk2, d01, d32, fun j r s hr hs => ?_, fun H' D' hI' x' => ?_⟩
              · obtain ⟨c, hc, e⟩ := List.mem_map.mp (hfs ▸ List.mem_map.mpr ⟨r, hr, rfl⟩ : r.2 ∈ cs.map fun c => rwOf ys [k0, k1] 0 c.2)
                rw [← e]
                have := (hcw c hc).1
                show c.2.w + 0 ≤ _
                omega
              · have h1 : (fs.map (·.2))[j]? = some r.2 := by rw [List.getElem?_map, hr]; rfl
                have h2 : (ss.map (·.2))[j]? = some s.2 := by rw [List.getElem?_map, hs]; rfl
                rw [hfs, List.getElem?_map] at h1
                rw [hss, List.getElem?_map] at h2
                obtain ⟨c, hc, e1⟩ := Option.map_eq_some_iff.mp h1
                rw [hc] at h2
                have e2 : rwOf ys.reverse [k3, k2] B c.2 = s.2 := Option.some.inj h2
                rw [← e1, ← e2]
                refine ⟨by show c.2.w + B = c.2.w + 0 + B; omega, rfl, ?_⟩
                rcases (hcw c (List.mem_of_getElem? hc)).2 with h | h
                · refine .inl ⟨?_, ?_⟩
                  · show [k0, k1].getD c.2.kp.toNat _ = _
                    rw [h]
                    rfl
                  · show [k3, k2].getD c.2.kp.toNat _ = _
                    rw [h]
                    rfl
                · refine .inr ⟨?_, ?_⟩
                  · show [k0, k1].getD c.2.kp.toNat _ = _
                    rw [h]
                    rfl
                  · show [k3, k2].getD c.2.kp.toNat _ = _
                    rw [h]
                    rfl
              · wtm_at "sm"
                exact go _ _ hI'.drop.drop ((x041.trans x4144).trans x')
def spLaw : Sp := fun vs H Q _ => ∃ (l : Addr) (o : Obj) (ns : List Int) (R : Cells) (D : Hp), vs = [.ref l] ∧ HI H R D ∧ D l = some (.frz o (.lst (ns.map V.int))) ∧ ∀ H', Q (.bl true) H'
set_option maxHeartbeats 1000000 in
theorem ok_law {P : Program} {w : World} {K : PySem.W.Frag} {mg : Str → Option Value} {base : Heap} (T : Tx K mg) : FnG P w K mg base 13 (a_law K) ["script"] spLaw := by
  refine T.f_law.ok sc_law (fun vs H Q E h => ?_) (fun cdv A outer s H vs Q E hgu hr h => ⟨_, (pss_cons (ps_for (passes_of rfl) rfl (pi_range1 rfl T.n_range (pa_cons (pe_callB (call_maxU rfl) (by rfl) T.n_max boot_max (pa_cons pe_int (pa_cons (pe_callB (call_minU rfl) (by rfl) T.n_min boot_min (pa_cons pe_int (pa_cons (pe_callB (call_lenU) (by rfl) T.n_len boot_len (pa_cons (pv 0) pa_nil)) pa_nil))) pa_nil))) pa_nil)) (pg_name (i := 1) sc_law.nd rfl (Or.inl rfl)) (pss_one (ps_if (pt_not (pt_val (ge_call (ok_l_right T) hgu (hr.mono (by decide)) rfl T.g_l_right T.k_l_right T.b_l_right .nil (fun _ => pass_takes (takes_of rfl rfl rfl rfl)) (pa_cons (ge_call (ok_l_box T) hgu (hr.mono (by decide)) rfl T.g_l_box T.k_l_box T.b_l_box .nil (fun _ => pass_takes (takes_of rfl rfl rfl rfl)) (pa_cons (ge_call (ok_l_cell T) hgu (hr.mono (by decide)) rfl T.g_l_cell T.k_l_cell T.b_l_cell .nil (fun _ => pass_takes (takes_of rfl rfl rfl rfl)) (pa_cons (pv 0) (pa_cons (pv 1) pa_nil))) pa_nil)) pa_nil)))) (pss_one (ps_ret pe_bl)) pss_nil)))
 (pss_one (ps_ret pe_bl))), ?_⟩)
  · obtain ⟨l, o, ns, R, D, rfl, _⟩ := h
    rfl
  · obtain ⟨l, o, ns, R, D, rfl, hI, hl, go⟩ := h
    wtm_at "go"
    wtm_at "sm"
    refine for_rng (fun i σ R' D' => ∃ a1 : Option V, σ = [some (.ref l), a1] ∧ R' = R ∧ Ex D D') hI ⟨_, rfl, rfl, Ex.refl _⟩ (fun i σ R' D' H' hi hI' p => ?_) (fun σ R' D' H' hI' p => ?_)
    · obtain ⟨a1, rfl, hRR, x⟩ := p
      rw [hRR] at hI'
      wtm_at "sm"
      refine cell_now hI' (by wtm_at "dat") (by omega) (by omega) (fun c H5 hI5 => ?_)
      wtm_at "sm"
      refine box_now hI5 (fun b xx yy H6 hI6 bo6 => ?_)
      wtm_at "sm"
      refine ⟨b, R, D', xx, yy, 0, 0, rfl, hI6, bo6, by decide, fun H7 D7 hI7 x7 => ?_⟩
      wtm_at "sm"
      exact ⟨_, _, hI7, _, rfl, rfl, x.trans x7⟩
    · obtain ⟨a1, rfl, hRR, x⟩ := p
      wtm_at "sm"
      exact go _
end Wk
set_option maxRecDepth 100000
set_option maxHeartbeats 0
namespace Wk
open PySem PySem.Spec PyProof.Rows L2
theorem law_hc {q : Program} {loose : List Str} {XP : (Str → Option Value) → Heap → Prop} {d : DefRec} (hdf : d.params.defaults = []) (hnm : d.name = "law") : PySem.W.WalkO q loose XP hk.says (PySem.W.OpenLaw.row PySem.Challenge.rw_weekheads_k27_whole_later_and_called_oth).toRowW d [] (fun f vs => PySem.call f vs) := by
  refine law_endG (l := PySem.Challenge.rw_weekheads_k27_whole_later_and_called_oth) (n := 63) (k := 13) (x := "script") rfl (by decide) hdf ⟨rfl, by decide, by decide⟩ (fun w mg fa h Y G hmg => ?_)
  obtain ⟨K, X, c⟩ := Y
  have T : Tx K mg := ⟨c, h, X, G⟩
  rw [hnm] at hmg
  have e := hmg.symm.trans T.g_law
  cases e
  exact ⟨K, spLaw, X, T.nol, fun s u => FunD.bindsA (ps := ["script"]) T.f_law (fun _ _ _ _ _ _ us hl => match us, hl with | [_], _ => rfl) s [u] rfl, fun H a o ns hl hI ha => ⟨a, o, ns, [], H, rfl, hI, ha, fun _ => rfl⟩, fun base _ _ => ok_law T⟩
end Wk
theorem PySem.Challenge.cw_weekheads_k27_whole_later_and_called_oth_holds : PySem.Challenge.rw_weekheads_k27_whole_later_and_called_oth.Holds := by
  exact Wk.lawFin fun h1 h2 => Wk.law_hc h1 h2
