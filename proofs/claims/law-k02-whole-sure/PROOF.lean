import PyProof.Rows.All
import Wide.All
import OpenK.AllK
import Wide.FinOn
import HandS.ForMost
import HandS.TupAny
import HandS.TupMul
import HandS.Deep
import HandS.Zip
import HandS.IsInst
import HandS.Conv
import HandS.Flow
import HandS.EndTab
import HandS.Lambda
import KE.KDictKeyed
import KE.KDictWalk
import KE.KDictPairs
import HandS.GenList
import HandS.AnyAll
import KE.GoesEnum
import HandS.DictComp
import HandS.SortKw
import KE.DataMinKey
import KE.DataCmp
import HandS.Wide
import HandS.Head0
import HandS.Head1
import HandS.Head2
import HandS.HeadHook1
import HandS.HeadHook2
import HandS.HeadHook3
import HandS.HeadHook4
import HandS.HeadWalk
import PySem.Challenge.RW_lostlines_k02_whole_sure
set_option Elab.async false
set_option linter.all false
set_option maxRecDepth 100000
set_option autoImplicit false
/-! Keys by data, and a dict of such keys in the abstract heap. -/
namespace LL
open PySem PySem.Spec PyProof.Rows L2
/-- the world of the hashes, the table of the code object that makes lambdas, their name -/
class Wd where
  w : World
  lamP : Addr
  lamQ : Str
/-! ### keys by data -/
mutual
def nk : PyData → NestedKey
  | .int i => .num i
  | .tuple ds => .tup (nks ds)
  | _ => .none
def nks : List PyData → List NestedKey
  | [] => []
  | d :: r => nk d :: nks r
end
mutual
/-- whole numbers and tuples alone -/
def isKd : PyData → Bool
  | .int _ => true
  | .tuple ds => areKd ds
  | _ => false
def areKd : List PyData → Bool
  | [] => true
  | d :: r => isKd d && areKd r
end
mutual
theorem nk_inj : ∀ (a b : PyData), isKd a = true → isKd b = true → nk a = nk b → a = b
  | .int i, .int j, _, _, h => by unfold nk at h; cases h; rfl
  | .tuple as, .tuple bs, ha, hb, h => by
    unfold nk at h
    unfold isKd at ha hb
    injection h with h
    rw [nks_inj as bs ha hb h]
  | .int i, .tuple bs, _, _, h => by unfold nk at h; cases h
  | .tuple as, .int j, _, _, h => by unfold nk at h; cases h
  | .none, _, ha, _, _ => by simp [isKd] at ha
  | .bool _, _, ha, _, _ => by simp [isKd] at ha
  | .str _, _, ha, _, _ => by simp [isKd] at ha
  | .list _, _, ha, _, _ => by simp [isKd] at ha
  | .dict _, _, ha, _, _ => by simp [isKd] at ha
  | _, .none, _, hb, _ => by simp [isKd] at hb
  | _, .bool _, _, hb, _ => by simp [isKd] at hb
  | _, .str _, _, hb, _ => by simp [isKd] at hb
  | _, .list _, _, hb, _ => by simp [isKd] at hb
  | _, .dict _, _, hb, _ => by simp [isKd] at hb
theorem nks_inj : ∀ (a b : List PyData), areKd a = true → areKd b = true → nks a = nks b → a = b
  | [], [], _, _, _ => rfl
  | x :: xs, y :: ys, ha, hb, h => by
    unfold areKd at ha hb
    rw [Bool.and_eq_true] at ha hb
    unfold nks at h
    injection h with h1 h2
    rw [nk_inj x y ha.1 hb.1 h1, nks_inj xs ys ha.2 hb.2 h2]
  | [], _ :: _, _, _, h => by simp [nks] at h
  | _ :: _, [], _, _, h => by simp [nks] at h
end
/-! ### what stands in the abstract heap -/
abbrev DEn := NestedKey × V × V
def EnR (w : World) (x : DEn) (e : DictEntry) : Prop := e.hash = x.1.hash w ∧ RelV x.2.1 e.key ∧ RelV x.2.2 e.val
def DO (w : World) (d : Addr) (xs : List DEn) : HO := .ext fun h => (d == sysModules) = false ∧ xs.length ≤ sizeLine ∧ (xs.map (·.1)).Nodup ∧
  ∃ o es ep, h.get? d = some o ∧ o.ExactDict ∧ o.data = .dict es ep ∧ Paired (EnR w) xs es.toList
theorem do_mk {P : Program} {w : World} {H : Hp} {h : Heap} {d : Addr} {xs : List DEn} (h1 : (d == sysModules) = false) (h2 : xs.length ≤ sizeLine) (h3 : (xs.map (·.1)).Nodup) {o : Obj} {es : Array DictEntry} {ep : Nat} (h4 : h.get? d = some o) (h5 : o.ExactDict) (h6 : o.data = .dict es ep)
    (h7 : Paired (EnR w) xs es.toList) : ObjOk P w H h d (DO w d xs) :=
  ⟨⟨h1, h2, h3, o, es, ep, h4, h5, h6, h7⟩, ⟨o, h4⟩, fun ha hb ⟨a1, a2, a3, o', es', ep', a4, a5, a6, a7⟩ k => ⟨a1, a2, a3, o', es', ep', k _ a4, a5, a6, a7⟩⟩
theorem heap_size : ∀ n : Nat, ∃ h : Heap, h.objs.size = n
  | 0 => ⟨{}, rfl⟩
  | n + 1 => by
    obtain ⟨h, e⟩ := heap_size n
    exact ⟨h.push { cls := .none, data := .fields #[] }, by rw [Heap.size_push, e]⟩
theorem do_ne_code (w : World) (d : Addr) (xs : List DEn) (q : Str) : DO w d xs ≠ LamX.CodeO d q := fun z => by
  unfold DO LamX.CodeO at z
  injection z with z
  obtain ⟨h, e⟩ := heap_size d
  have g := Heap.get?_push_size h (o := { cls := .none, data := .fields #[.none, .str q default] }) rfl
  rw [e] at g
  have z := congrFun z (h.push { cls := .none, data := .fields #[.none, .str q default] })
  have k : ∃ (oc : Obj) (vs : Array Value) (t : Tok), (h.push { cls := .none, data := .fields #[.none, .str q default] }).get? d = some oc ∧ oc.data = .fields vs ∧ vs[1]? = some (.str q t) := ⟨_, _, default, g, rfl, rfl⟩
  rw [← z] at k
  obtain ⟨_, _, _, o, es, ep, ho, _, hd, _⟩ := k
  rw [g] at ho
  cases ho
  cases hd
end LL
set_option Elab.async false
set_option linter.all false
set_option maxRecDepth 100000
set_option autoImplicit false
/-! Data in the abstract heap, and readings by data: an expression of pure data is told by a function of the slots' data. -/
namespace LL
open PySem PySem.Spec PyProof.Rows L2
variable [Wd]

/-- the table of a code object stands at P -/
def Tbl (H : Hp) (P : Addr) : Prop := ∃ ps : Array Value, H P = some (.tbl ps) ∧ TriplesOk ps.toList
/-- the codes that the table of lambdas tells bear their name -/
def LamOk (H : Hp) : Prop := ∀ ps : Array Value, H Wd.lamP = some (.tbl ps) → ∀ (pos : Pos) (cv : Value), codeAmong pos ps.toList = some cv → ∃ c, cv = .ref c ∧ H c = some (LamX.CodeO c Wd.lamQ)
def Ok (Ps : List Addr) (H : Hp) : Prop := (∀ P ∈ Ps, Tbl H P) ∧ Wd.lamP ∈ Ps ∧ LamOk H
/-- all that is tracked stands, but for the tables -/
def Sm (Ps : List Addr) (H H' : Hp) : Prop := ∀ b o, b ∉ Ps → H b = some o → H' b = some o
theorem Sm.refl {Ps : List Addr} {H : Hp} : Sm Ps H H := fun _ _ _ e => e
theorem Sm.trans {Ps : List Addr} {H H1 H2 : Hp} (a : Sm Ps H H1) (b : Sm Ps H1 H2) : Sm Ps H H2 := fun c o n e => b c o n (a c o n e)
theorem Ok.ne {Ps : List Addr} {H : Hp} (k : Ok Ps H) {b : Addr} {o : HO} (e : H b = some o) (no : ∀ ps, o ≠ .tbl ps) : b ∉ Ps := fun hb => by
  obtain ⟨ps, h, _⟩ := k.1 b hb
  rw [e] at h
  exact no ps (Option.some.inj h)
theorem Sm.new {Ps : List Addr} {H : Hp} {p : Addr} {o : HO} (h : H p = none) : Sm Ps H (upd H p o) := fun b u _ e => by
  rw [upd_ne (ne_of_none e h)]
  exact e
theorem Ok.new {Ps : List Addr} {H : Hp} {p : Addr} {o : HO} (k : Ok Ps H) (h : H p = none) : Ok Ps (upd H p o) := by
  refine ⟨fun P hP => ?_, k.2.1, fun ps e pos cv hc => ?_⟩
  · obtain ⟨ps, e, t⟩ := k.1 P hP
    exact ⟨ps, by rw [upd_ne (ne_of_none e h)]; exact e, t⟩
  · obtain ⟨ps', e', t⟩ := k.1 _ k.2.1
    rw [upd_ne (ne_of_none e' h)] at e
    obtain ⟨c, e1, e2⟩ := k.2.2 ps e pos cv hc
    exact ⟨c, e1, by rw [upd_ne (ne_of_none e2 h)]; exact e2⟩
/-- a tracked thing that is no table is written -/
theorem Ok.put {Ps : List Addr} {H : Hp} {p : Addr} {o o' : HO} (k : Ok Ps H) (h : H p = some o) (no : ∀ ps, o ≠ .tbl ps) (nc : ∀ q, o ≠ LamX.CodeO p q) : Ok Ps (upd H p o') := by
  refine ⟨fun P hP => ?_, k.2.1, fun ps e pos cv hc => ?_⟩
  · obtain ⟨ps, e, t⟩ := k.1 P hP
    have n : P ≠ p := fun z => k.ne h no (z ▸ hP)
    exact ⟨ps, by rw [upd_ne n]; exact e, t⟩
  · have n : Wd.lamP ≠ p := fun z => k.ne h no (z ▸ k.2.1)
    rw [upd_ne n] at e
    obtain ⟨c, e1, e2⟩ := k.2.2 ps e pos cv hc
    have n2 : c ≠ p := fun z => by
      subst z
      rw [h] at e2
      exact nc _ (Option.some.inj e2)
    exact ⟨c, e1, by rw [upd_ne n2]; exact e2⟩
theorem nc_lst {xs : List V} {p : Addr} : ∀ q, HO.lst xs ≠ LamX.CodeO p q := fun q z => by unfold LamX.CodeO at z; cases z
theorem nt_do {w : World} {d : Addr} {xs : List DEn} : ∀ ps, DO w d xs ≠ .tbl ps := fun ps z => by unfold DO at z; cases z
theorem nc_do {w : World} {d : Addr} {xs : List DEn} : ∀ q, DO w d xs ≠ LamX.CodeO d q := do_ne_code w d xs
/-- a table that is not the lambdas' grows -/
theorem Ok.table {Ps : List Addr} {H : Hp} {P : Addr} {ps : Array Value} (k : Ok Ps H) (hP : P ∈ Ps) (hl : P ≠ Wd.lamP) (t : TriplesOk ps.toList) : Ok Ps (upd H P (.tbl ps)) := by
  refine ⟨fun P' hP' => ?_, k.2.1, fun ps' e pos cv hc => ?_⟩
  · by_cases h : P' = P
    · subst h
      exact ⟨ps, upd_same, t⟩
    · obtain ⟨ps', e, t'⟩ := k.1 P' hP'
      exact ⟨ps', by rw [upd_ne h]; exact e, t'⟩
  · rw [upd_ne (Ne.symm hl)] at e
    obtain ⟨c, e1, e2⟩ := k.2.2 ps' e pos cv hc
    have n2 : c ≠ P := fun z => by
      subst z
      obtain ⟨ps2, e3, _⟩ := k.1 _ hP
      rw [e2] at e3
      exact LamX.codeO_ne ps2 (Option.some.inj e3)
    exact ⟨c, e1, by rw [upd_ne n2]; exact e2⟩
theorem no_tup {xs : List V} : ∀ ps, HO.tup xs ≠ .tbl ps := fun _ z => by cases z
theorem no_lst {xs : List V} : ∀ ps, HO.lst xs ≠ .tbl ps := fun _ z => by cases z
theorem Sm.tup {Ps : List Addr} {H H' : Hp} (s : Sm Ps H H') (k : Ok Ps H) {a : Addr} {xs : List V} (e : H a = some (.tup xs)) : H' a = some (.tup xs) := s a _ (k.ne e no_tup) e
theorem Sm.lst {Ps : List Addr} {H H' : Hp} (s : Sm Ps H H') (k : Ok Ps H) {a : Addr} {xs : List V} (e : H a = some (.lst xs)) : H' a = some (.lst xs) := s a _ (k.ne e no_lst) e

/-- the key of an entry -/
def DEky (x : DEn) (k : PyData) : Prop := x.1 = nk k ∧ isKd k = true ∧ x.1.depth ≤ 8
/-- the codes of what is known by its type alone: a list, an empty dict -/
abbrev opL : PyData := .dict [(.none, .bool true)]
abbrev opD : PyData := .dict [(.none, .bool false)]
mutual
/-- the value v is the data d in the abstract heap H; b: whether it may be a list (of data that hold none) -/
inductive Rq (H : Hp) : Bool → V → PyData → Prop
  | non {b : Bool} : Rq H b .non .none
  | bl {b : Bool} (c : Bool) : Rq H b (.bl c) (.bool c)
  | int {b : Bool} (i : Int) : Rq H b (.int i) (.int i)
  | lst {a : Addr} {xs : List V} {ds : List PyData} : H a = some (.lst xs) → RpA H xs ds → Rq H true (.ref a) (.list ds)
  | tup {b : Bool} {a : Addr} {xs : List V} {ds : List PyData} : H a = some (.tup xs) → RpA H xs ds → Rq H b (.ref a) (.tuple ds)
  | dct {b : Bool} {a : Addr} {o : Obj} {xs : List DEn} {kvs : List (PyData × PyData)} : H a = some (.frz o (DO Wd.w a xs)) → RpD H xs kvs → Rq H b (.ref a) (.dict kvs)
  | opl {b : Bool} {a : Addr} {o : Obj} {xs : List V} : H a = some (.frz o (.lst xs)) → Rq H b (.ref a) opL
  | opd {b : Bool} {a : Addr} {o : Obj} : H a = some (.frz o (.dK [])) → Rq H b (.ref a) opD
inductive RpA (H : Hp) : List V → List PyData → Prop
  | nil : RpA H [] []
  | cons {v : V} {vs : List V} {d : PyData} {ds : List PyData} : Rq H false v d → RpA H vs ds → RpA H (v :: vs) (d :: ds)
inductive RpD (H : Hp) : List DEn → List (PyData × PyData) → Prop
  | nil : RpD H [] []
  | cons {x : DEn} {xs : List DEn} {k v : PyData} {kvs : List (PyData × PyData)} : DEky x k → Rq H false x.2.1 k → Rq H false x.2.2 v → RpD H xs kvs → RpD H (x :: xs) ((k, v) :: kvs)
end
/-- what never changes -/
inductive Imm : HO → Prop
  | tup (xs : List V) : Imm (.tup xs)
  | frz (o : Obj) (u : HO) : Imm (.frz o u)
abbrev Rp (H : Hp) : V → PyData → Prop := Rq H true
abbrev Rt (H : Hp) : V → PyData → Prop := Rq H false
/-- no list -/
def notL : PyData → Bool
  | .list _ => false
  | _ => true
section
variable {Ps : List Addr} {H H' : Hp}
theorem Imm.noT {o : HO} (i : Imm o) : ∀ ps, o ≠ .tbl ps := fun _ z => by rw [z] at i; cases i
theorem Imm.noL {o : HO} (i : Imm o) {xs : List V} : o ≠ .lst xs := fun z => by rw [z] at i; cases i
theorem Imm.noE {o : HO} (i : Imm o) {φ : Heap → Prop} : o ≠ .ext φ := fun z => by rw [z] at i; cases i
theorem Sm.imm (s : Sm Ps H H') (k : Ok Ps H) {a : Addr} {o : HO} (i : Imm o) (e : H a = some o) : H' a = some o := s a _ (k.ne e i.noT) e
theorem Rq.up {b : Bool} {v : V} {d : PyData} (h : Rq H b v d) : Rp H v d := by
  cases h with
  | non => exact .non
  | bl c => exact .bl c
  | int i => exact .int i
  | lst e r => exact .lst e r
  | tup e r => exact .tup e r
  | dct e r => exact .dct e r
  | opl e => exact .opl e
  | opd e => exact .opd e
theorem Rq.im {b : Bool} {v : V} {d : PyData} (h : Rq H b v d) (n : notL d = true) : Rt H v d := by
  cases h with
  | non => exact .non
  | bl c => exact .bl c
  | int i => exact .int i
  | lst e r => cases n
  | tup e r => exact .tup e r
  | dct e r => exact .dct e r
  | opl e => exact .opl e
  | opd e => exact .opd e
theorem Rq.notL {v : V} {d : PyData} (h : Rt H v d) : notL d = true := by
  cases h <;> rfl
mutual
/-- what holds no list stands while the tuples stand -/
theorem Rt.keep (s : ∀ a o, Imm o → H a = some o → H' a = some o) : ∀ (d : PyData) (v : V), Rt H v d → Rt H' v d
  | .none, _, h => by cases h; exact .non
  | .bool _, _, h => by cases h; exact .bl _
  | .int _, _, h => by cases h; exact .int _
  | .str _, _, h => by cases h
  | .list ds, _, h => by cases h
  | .tuple ds, _, h => by
    cases h with
    | tup e r => exact .tup (s _ _ (.tup _) e) (RpA.keep s ds _ r)
  | .dict kvs, _, h => by
    cases h with
    | dct e r => exact .dct (s _ _ (.frz _ _) e) (RpD.keep s kvs _ r)
    | opl e => exact .opl (s _ _ (.frz _ _) e)
    | opd e => exact .opd (s _ _ (.frz _ _) e)
theorem RpA.keep (s : ∀ a o, Imm o → H a = some o → H' a = some o) : ∀ (ds : List PyData) (vs : List V), RpA H vs ds → RpA H' vs ds
  | [], _, h => by cases h; exact .nil
  | d :: ds, _, h => by
    cases h with
    | cons h1 h2 => exact .cons (Rt.keep s d _ h1) (RpA.keep s ds _ h2)
theorem RpD.keep (s : ∀ a o, Imm o → H a = some o → H' a = some o) : ∀ (kvs : List (PyData × PyData)) (vs : List DEn), RpD H vs kvs → RpD H' vs kvs
  | [], _, h => by cases h; exact .nil
  | (k, v) :: kvs, _, h => by
    cases h with
    | cons h0 h1 h2 h3 => exact .cons h0 (Rt.keep s k _ h1) (Rt.keep s v _ h2) (RpD.keep s kvs _ h3)
end
theorem RpA.mono (k : Ok Ps H) (s : Sm Ps H H') (ds : List PyData) (vs : List V) (h : RpA H vs ds) : RpA H' vs ds := RpA.keep (fun _ _ i e => s.imm k i e) ds vs h
theorem RpD.mono (k : Ok Ps H) (s : Sm Ps H H') (kvs : List (PyData × PyData)) (vs : List DEn) (h : RpD H vs kvs) : RpD H' vs kvs := RpD.keep (fun _ _ i e => s.imm k i e) kvs vs h
theorem Rp.mono (k : Ok Ps H) (s : Sm Ps H H') {b : Bool} (d : PyData) (v : V) (h : Rq H b v d) : Rq H' b v d := by
  cases h with
  | non => exact .non
  | bl c => exact .bl c
  | int i => exact .int i
  | lst e r => exact .lst (s.lst k e) (RpA.mono k s _ _ r)
  | tup e r => exact .tup (s.tup k e) (RpA.mono k s _ _ r)
  | dct e r => exact .dct (s.imm k (.frz _ _) e) (RpD.mono k s _ _ r)
  | opl e => exact .opl (s.imm k (.frz _ _) e)
  | opd e => exact .opd (s.imm k (.frz _ _) e)
mutual
theorem Rt.dp {K : PySem.W.Frag} : ∀ (d : PyData) (v : V), d.canLay0 = true → Rt H v d → Dp K H v d
  | .none, _, _, h => by cases h; exact .non
  | .bool _, _, _, h => by cases h; exact .bl _
  | .int _, _, _, h => by cases h; exact .int _
  | .str _, _, _, h => by cases h
  | .list ds, _, _, h => by cases h
  | .tuple ds, _, c, h => by
    cases h with
    | tup e r => exact .tup (SqT.of e) (RpA.dp ds _ (by simpa [PyData.canLay0] using c) r)
  | .dict _, _, c, h => by simp [PyData.canLay0] at c
theorem RpA.dp {K : PySem.W.Frag} : ∀ (ds : List PyData) (vs : List V), PyData.canLayAll0 ds = true → RpA H vs ds → DpAll K H vs ds
  | [], _, _, h => by cases h; exact .nil
  | d :: ds, _, c, h => by
    cases h with
    | cons h1 h2 =>
      rw [PyData.canLayAll0, Bool.and_eq_true] at c
      exact .cons (Rt.dp d _ c.1 h1) (RpA.dp ds _ c.2 h2)
end
theorem Rp.dp {K : PySem.W.Frag} {b : Bool} (d : PyData) (v : V) (c : d.canLay0 = true) (h : Rq H b v d) : Dp K H v d := by
  cases h with
  | non => exact .non
  | bl c2 => exact .bl c2
  | int i => exact .int i
  | lst e r => exact .lst (SqL.of e) (RpA.dp _ _ (by simpa [PyData.canLay0] using c) r)
  | tup e r => exact .tup (SqT.of e) (RpA.dp _ _ (by simpa [PyData.canLay0] using c) r)
  | dct e r => simp [PyData.canLay0] at c
  | opl e => simp [PyData.canLay0, opL] at c
  | opd e => simp [PyData.canLay0, opD] at c
theorem RpA.length : ∀ {vs : List V} {ds : List PyData}, RpA H vs ds → vs.length = ds.length
  | _, [], h => by cases h; rfl
  | _, _ :: ds, h => by
    cases h with
    | cons _ h2 => rw [List.length_cons, List.length_cons, RpA.length h2]
theorem RpA.append : ∀ {vs : List V} {ds : List PyData} {us : List V} {es : List PyData}, RpA H vs ds → RpA H us es → RpA H (vs ++ us) (ds ++ es)
  | _, [], _, _, h, k => by cases h; exact k
  | _, _ :: ds, _, _, h, k => by
    cases h with
    | cons h1 h2 => exact .cons h1 (RpA.append h2 k)
theorem RpA.take : ∀ {vs : List V} {ds : List PyData} (n : Nat), RpA H vs ds → RpA H (vs.take n) (ds.take n)
  | _, _, 0, _ => by rw [List.take_zero, List.take_zero]; exact .nil
  | _, [], _ + 1, h => by cases h; exact .nil
  | _, _ :: ds, n + 1, h => by
    cases h with
    | cons h1 h2 => exact .cons h1 (RpA.take n h2)
theorem RpA.drop : ∀ {vs : List V} {ds : List PyData} (n : Nat), RpA H vs ds → RpA H (vs.drop n) (ds.drop n)
  | _, _, 0, h => h
  | _, [], _ + 1, h => by cases h; exact .nil
  | _, _ :: ds, n + 1, h => by
    cases h with
    | cons h1 h2 => exact RpA.drop n h2
theorem RpA.get : ∀ {vs : List V} {ds : List PyData} {i : Nat} {d : PyData}, RpA H vs ds → ds[i]? = some d → ∃ v, vs[i]? = some v ∧ Rt H v d
  | _, [], _, _, _, e => by simp at e
  | _, _ :: ds, 0, d, h, e => by
    cases h with
    | cons h1 h2 =>
      simp at e
      subst e
      exact ⟨_, rfl, h1⟩
  | _, _ :: ds, i + 1, d, h, e => by
    cases h with
    | cons h1 h2 =>
      obtain ⟨v, e1, r⟩ := RpA.get (i := i) h2 (by simpa using e)
      exact ⟨v, by simpa using e1, r⟩
theorem RpA.getV : ∀ {vs : List V} {ds : List PyData} {i : Nat} {v : V}, RpA H vs ds → vs[i]? = some v → ∃ d, ds[i]? = some d ∧ Rt H v d := fun {vs ds i v} r e => by
  have hl := r.length
  have hi : i < ds.length := by
    have := (List.getElem?_eq_some_iff.mp e).1
    omega
  obtain ⟨v', e1, r1⟩ := r.get (List.getElem?_eq_getElem hi)
  rw [e] at e1
  cases e1
  exact ⟨_, List.getElem?_eq_getElem hi, r1⟩
theorem RpA.reps {vs : List V} {ds : List PyData} (h : RpA H vs ds) : ∀ n : Nat, RpA H (List.replicate n vs).flatten (List.replicate n ds).flatten
  | 0 => .nil
  | n + 1 => by
    rw [List.replicate_succ, List.replicate_succ, List.flatten_cons, List.flatten_cons]
    exact RpA.append h (RpA.reps h n)
theorem RpA.ints : ∀ {vs : List V} {ns : List Int}, RpA H vs (ns.map PyData.int) → vs = ns.map V.int
  | _, [], h => by cases h; rfl
  | _, n :: ns, h => by
    cases h with
    | cons h1 h2 =>
      cases h1
      rw [RpA.ints h2]
      rfl
theorem RpA.ofInts : ∀ (ns : List Int), RpA H (ns.map V.int) (ns.map PyData.int)
  | [] => .nil
  | _ :: ns => .cons (.int _) (RpA.ofInts ns)
/-- arguments -/
inductive RqA (H : Hp) : List V → List PyData → Prop
  | nil : RqA H [] []
  | cons {v : V} {vs : List V} {d : PyData} {ds : List PyData} : Rp H v d → RqA H vs ds → RqA H (v :: vs) (d :: ds)
theorem RqA.mono (k : Ok Ps H) (s : Sm Ps H H') {vs : List V} {ds : List PyData} (h : RqA H vs ds) : RqA H' vs ds := by
  induction h with
  | nil => exact .nil
  | cons h1 _ ih => exact .cons (Rp.mono k s _ _ h1) ih
theorem RqA.length {vs : List V} {ds : List PyData} (h : RqA H vs ds) : vs.length = ds.length := by
  induction h with
  | nil => rfl
  | cons _ _ ih => rw [List.length_cons, List.length_cons, ih]
theorem RqA.im {vs : List V} {ds : List PyData} (h : RqA H vs ds) : ds.all notL = true → RpA H vs ds := by
  induction h with
  | nil => exact fun _ => .nil
  | cons h1 _ ih =>
    intro n
    rw [List.all_cons, Bool.and_eq_true] at n
    exact .cons (h1.im n.1) (ih n.2)
theorem RqA.get {vs : List V} {ds : List PyData} (h : RqA H vs ds) : ∀ {i : Nat} {d : PyData}, ds[i]? = some d → ∃ v, vs[i]? = some v ∧ Rp H v d := by
  induction h with
  | nil => intro i d e; simp at e
  | cons h1 _ ih =>
    intro i d e
    cases i with
    | zero =>
      simp at e
      subst e
      exact ⟨_, rfl, h1⟩
    | succ i =>
      obtain ⟨v, e1, r⟩ := ih (i := i) (by simpa using e)
      exact ⟨v, by simpa using e1, r⟩
/-- what is asked behind a value that is the data d -/
def Kd (Ps : List Addr) (H : Hp) (d : PyData) (Q : VK) : Prop := ∀ v H', Sm Ps H H' → Ok Ps H' → Rp H' v d → Q v H'
theorem Kd.here {d : PyData} {Q : VK} (q : Kd Ps H d Q) (k : Ok Ps H) {v : V} (r : Rp H v d) : Q v H := q v H .refl k r
theorem Kd.later {d : PyData} {Q : VK} (q : Kd Ps H d Q) (s : Sm Ps H H') : Kd Ps H' d Q := fun v H2 s2 k r => q v H2 (s.trans s2) k r
theorem Kd.tup {ds : List PyData} {Q : VK} (q : Kd Ps H (.tuple ds) Q) (k : Ok Ps H) {xs : List V} (r : RpA H xs ds) {p : Addr} (hp : H p = none) : Q (.ref p) (upd H p (.tup xs)) :=
  q _ _ (.new hp) (k.new hp) (.tup upd_same (RpA.mono k (.new hp) _ _ r))
theorem Kd.lst {ds : List PyData} {Q : VK} (q : Kd Ps H (.list ds) Q) (k : Ok Ps H) {xs : List V} (r : RpA H xs ds) {p : Addr} (hp : H p = none) : Q (.ref p) (upd H p (.lst xs)) :=
  q _ _ (.new hp) (k.new hp) (.lst upd_same (RpA.mono k (.new hp) _ _ r))
end

/-! ### slots by data -/
abbrev DEnv := List (Option PyData)
structure Rel (H : Hp) (σ : L2.St) (ρ : DEnv) : Prop where
  len : ρ.length = σ.length
  get : ∀ (i : Nat) (d : PyData), ρ[i]? = some (some d) → ∃ v : V, σ[i]? = some (some v) ∧ Rp H v d
section
variable {Ps : List Addr} {H H' : Hp} {σ : L2.St} {ρ : DEnv}
theorem Rel.mono (r : Rel H σ ρ) (k : Ok Ps H) (s : Sm Ps H H') : Rel H' σ ρ := ⟨r.len, fun i d e => by
  obtain ⟨v, e1, h⟩ := r.get i d e
  exact ⟨v, e1, Rp.mono k s _ _ h⟩⟩
theorem Rel.set (r : Rel H σ ρ) {v : V} {d : PyData} (h : Rp H v d) (i : Nat) : Rel H (σ.set i (some v)) (ρ.set i (some d)) := ⟨by rw [List.length_set, List.length_set]; exact r.len, fun j e he => by
  by_cases hj : i = j
  · subst hj
    by_cases hi : i < ρ.length
    · rw [List.getElem?_set_self hi] at he
      cases he
      exact ⟨v, List.getElem?_set_self (by rw [← r.len]; exact hi), h⟩
    · rw [List.getElem?_eq_none (by rw [List.length_set]; omega)] at he
      cases he
  · rw [List.getElem?_set_ne hj] at he ⊢
    exact r.get j e he⟩
def wipeD (ρ : DEnv) : List Nat → DEnv
  | [] => ρ
  | v :: vs => (wipeD ρ vs).set v none
theorem Rel.wipe (r : Rel H σ ρ) : ∀ vs : List Nat, Rel H (L2.wipe σ vs) (wipeD ρ vs)
  | [] => r
  | v :: vs => by
    have q := r.wipe vs
    refine ⟨by show ((wipeD ρ vs).set v none).length = ((L2.wipe σ vs).set v none).length; rw [List.length_set, List.length_set]; exact q.len, fun j e he => ?_⟩
    have he : ((wipeD ρ vs).set v none)[j]? = some (some e) := he
    show ∃ w, ((L2.wipe σ vs).set v none)[j]? = some (some w) ∧ Rp H w e
    by_cases hj : v = j
    · subst hj
      by_cases hi : v < (wipeD ρ vs).length
      · rw [List.getElem?_set_self hi] at he
        cases he
      · rw [List.getElem?_eq_none (by rw [List.length_set]; omega)] at he
        cases he
    · rw [List.getElem?_set_ne hj] at he ⊢
      exact q.get j e he
theorem Rel.start {vs : List V} {ds : List PyData} (h : RqA H vs ds) (n : Nat) : Rel H (vs.map some ++ List.replicate n none) (ds.map some ++ List.replicate n none) := by
  have hl := h.length
  refine ⟨by simp [hl], fun i d e => ?_⟩
  by_cases hi : i < ds.length
  · rw [List.getElem?_append_left (by simpa using hi)] at e
    rw [List.getElem?_map] at e
    rw [List.getElem?_append_left (by simpa [hl] using hi), List.getElem?_map]
    cases hd : ds[i]? with
    | none => rw [hd] at e; cases e
    | some d' =>
      rw [hd] at e
      cases e
      obtain ⟨v, e1, r⟩ := h.get hd
      exact ⟨v, by rw [e1]; rfl, r⟩
  · rw [List.getElem?_append_right (by simpa using Nat.le_of_not_lt hi)] at e
    rw [List.getElem?_replicate] at e
    split at e <;> cases e
end

/-! ### readings by data -/
def tD (Ps : List Addr) (E : DEnv → Option PyData) : TE := fun σ H Q => ∃ ρ d, Ok Ps H ∧ Rel H σ ρ ∧ E ρ = some d ∧ Kd Ps H d Q
def tT (Ps : List Addr) (E : DEnv → Option Bool) : TT := fun σ H Q => ∃ ρ b, Ok Ps H ∧ Rel H σ ρ ∧ E ρ = some b ∧ ∀ H', Sm Ps H H' → Ok Ps H' → Q b H'
def tAs (Ps : List Addr) (E : DEnv → Option (List PyData)) : TA := fun σ H Q => ∃ ρ ds, Ok Ps H ∧ Rel H σ ρ ∧ E ρ = some ds ∧ ∀ vs H', Sm Ps H H' → Ok Ps H' → RqA H' vs ds → Q vs H'
theorem pe_imp {X : Cx} {e : Expr} {t t' : TE} (h : PE X e t) (w : ∀ σ H Q, t' σ H Q → t σ H Q) : PE X e t' := ⟨fun pins s σ H Q I q => h.run pins s σ H Q I (w σ H Q q)⟩
theorem pt_imp {X : Cx} {e : Expr} {t t' : TT} (h : PT X e t) (w : ∀ σ H Q, t' σ H Q → t σ H Q) : PT X e t' := ⟨fun pins s σ H Q I q => h.run pins s σ H Q I (w σ H Q q)⟩
theorem pw_imp {X : Cx} {e : Expr} {t t' : TT} (h : PW X e t) (w : ∀ σ H Q, t' σ H Q → t σ H Q) : PW X e t' := ⟨fun wh pins s σ H Q I q => h.run wh pins s σ H Q I (w σ H Q q)⟩
theorem pa_imp {X : Cx} {es : List Expr} {t t' : TA} (h : PA X es t) (w : ∀ σ H Q, t' σ H Q → t σ H Q) : PA X es t' := ⟨fun pos pins s σ H Q I q => h.run pos pins s σ H Q I (w σ H Q q)⟩

def oV (i : Nat) : DEnv → Option PyData := fun ρ => (ρ[i]?).bind id
def oC (d : PyData) : DEnv → Option PyData := fun _ => some d
def o1 {β : Type} (F : PyData → Option β) (Ea : DEnv → Option PyData) : DEnv → Option β := fun ρ => (Ea ρ).bind F
def o2 {β : Type} (F : PyData → PyData → Option β) (Ea Eb : DEnv → Option PyData) : DEnv → Option β := fun ρ => (Ea ρ).bind fun a => (Eb ρ).bind fun b => F a b
def oNil : DEnv → Option (List PyData) := fun _ => some []
def oCons (Ea : DEnv → Option PyData) (Es : DEnv → Option (List PyData)) : DEnv → Option (List PyData) := fun ρ => (Ea ρ).bind fun a => (Es ρ).bind fun b => some (a :: b)
def oL {β : Type} (F : List PyData → Option β) (Es : DEnv → Option (List PyData)) : DEnv → Option β := fun ρ => (Es ρ).bind F
def oIf (Ec : DEnv → Option Bool) (Ea Eb : DEnv → Option PyData) : DEnv → Option PyData := fun ρ => (Ec ρ).bind fun c => if c = true then Ea ρ else Eb ρ
def oAnd (Ea Eb : DEnv → Option Bool) : DEnv → Option Bool := fun ρ => (Ea ρ).bind fun c => if c = true then Eb ρ else some false
def oOr (Ea Eb : DEnv → Option Bool) : DEnv → Option Bool := fun ρ => (Ea ρ).bind fun c => if c = true then some true else Eb ρ
def oNot (Ea : DEnv → Option Bool) : DEnv → Option Bool := fun ρ => (Ea ρ).bind fun c => some (!c)
def asB : PyData → Option Bool
  | .bool b => some b
  | _ => none
def oB (E : DEnv → Option Bool) : DEnv → Option PyData := fun ρ => (E ρ).bind fun b => some (.bool b)

section
variable {X : Cx} {Ps : List Addr} {a b c : Expr} {pos : Pos} {Ea Eb : DEnv → Option PyData}
theorem pd_name (i : Nat) {x : Str} {pos : Pos} (h : PE X (.Name x pos) (tVar i)) : PE X (.Name x pos) (tD Ps (oV i)) := pe_imp h fun σ H Q ⟨ρ, d, k, r, e, q⟩ => by
  unfold oV at e
  cases h : ρ[i]? with
  | none => rw [h] at e; cases e
  | some o =>
    rw [h] at e
    have e' : o = some d := e
    subst e'
    obtain ⟨v, e1, rp⟩ := r.get i d h
    exact ⟨v, e1, q.here k rp⟩
theorem pd_c {e : Expr} {v : V} {d : PyData} (h : PE X e (tC v)) (r : ∀ H, Rp H v d) : PE X e (tD Ps (oC d)) := pe_imp h fun σ H Q ⟨ρ, d', k, _, e, q⟩ => by
  have e' : d = d' := Option.some.inj e
  subst e'
  exact q.here k (r H)
theorem pd_int {i : Int} {j : Nat} {pos : Pos} : PE X (.Constant (.int i) j pos) (tD Ps (oC (.int i))) := pd_c pe_int fun _ => .int i
theorem pd_bl {b j pos} : PE X (.Constant (.bool b) j pos) (tD Ps (oC (.bool b))) := pd_c pe_bl fun _ => .bl b
theorem pd_non {j pos} : PE X (.Constant .none j pos) (tD Ps (oC .none)) := pd_c pe_non fun _ => .non

/-- a two-sided operator by its rule -/
theorem pd_op {op : Operator} {r : R2} {F : PyData → PyData → Option PyData} (ho : OpR X (binaryOp op) r)
    (hF : ∀ H x y a b d Q, Ok Ps H → Rp H x a → Rp H y b → F a b = some d → Kd Ps H d Q → r x y H Q) (ha : PE X a (tD Ps Ea)) (hb : PE X b (tD Ps Eb)) :
    PE X (.BinOp a op b pos) (tD Ps (o2 F Ea Eb)) := pe_imp (pe_op ho ha hb) fun σ H Q ⟨ρ, d, k, rel, e, q⟩ => by
  unfold o2 at e
  obtain ⟨x, e1, e⟩ := Option.bind_eq_some_iff.mp e
  obtain ⟨y, e2, e⟩ := Option.bind_eq_some_iff.mp e
  refine ⟨ρ, x, k, rel, e1, fun v1 H1 s1 k1 r1 => ⟨ρ, y, k1, rel.mono k s1, e2, fun v2 H2 s2 k2 r2 => ?_⟩⟩
  exact hF H2 v1 v2 x y d Q k2 (Rp.mono k1 s2 _ _ r1) r2 e (q.later (s1.trans s2))
theorem pd_cmp {op : CmpOp} {r : R2} {F : PyData → PyData → Option Bool} (ho : OpR X (compareOp op) r)
    (hF : ∀ H x y a b d Q, Ok Ps H → Rp H x a → Rp H y b → F a b = some d → Q (V.bl d) H → r x y H Q) (ha : PE X a (tD Ps Ea)) (hb : PE X b (tD Ps Eb)) (hm : behindInMarks op b = false) :
    PE X (.Compare a [op] [b] pos) (tD Ps (oB (o2 F Ea Eb))) := pe_imp (pe_cmpR ho ha hb hm) fun σ H Q ⟨ρ, d, k, rel, e, q⟩ => by
  unfold oB o2 at e
  obtain ⟨t, e0, e⟩ := Option.bind_eq_some_iff.mp e
  obtain ⟨x, e1, e0⟩ := Option.bind_eq_some_iff.mp e0
  obtain ⟨y, e2, e0⟩ := Option.bind_eq_some_iff.mp e0
  cases e
  refine ⟨ρ, x, k, rel, e1, fun v1 H1 s1 k1 r1 => ⟨ρ, y, k1, rel.mono k s1, e2, fun v2 H2 s2 k2 r2 => ?_⟩⟩
  exact hF H2 v1 v2 x y t Q k2 (Rp.mono k1 s2 _ _ r1) r2 e0 (q _ _ (s1.trans s2) k2 (.bl _))
theorem pdt_cmp {op : CmpOp} {r : R2} {F : PyData → PyData → Option Bool} (ho : OpR X (compareOp op) r)
    (hF : ∀ H x y a b d Q, Ok Ps H → Rp H x a → Rp H y b → F a b = some d → Q (V.bl d) H → r x y H Q) (ha : PE X a (tD Ps Ea)) (hb : PE X b (tD Ps Eb)) (hm : behindInMarks op b = false) :
    PT X (.Compare a [op] [b] pos) (tT Ps (o2 F Ea Eb)) := pt_imp (pt_cmpR ho ha hb hm) fun σ H Q ⟨ρ, d, k, rel, e, q⟩ => by
  unfold o2 at e
  obtain ⟨x, e1, e⟩ := Option.bind_eq_some_iff.mp e
  obtain ⟨y, e2, e⟩ := Option.bind_eq_some_iff.mp e
  refine ⟨ρ, x, k, rel, e1, fun v1 H1 s1 k1 r1 => ⟨ρ, y, k1, rel.mono k s1, e2, fun v2 H2 s2 k2 r2 => ?_⟩⟩
  exact hF H2 v1 v2 x y d _ k2 (Rp.mono k1 s2 _ _ r1) r2 e ⟨d, rfl, q _ (s1.trans s2) k2⟩
/-- a value that is a bool, as a test -/
theorem pdt_val {e : Expr} {E : DEnv → Option PyData} (h : PE X e (tD Ps E)) (he : ∀ whole, isTrue e X.env whole = (do let v ← whole; standAt e.pos; holding [v] (truthy v)) := by intro _; rfl) : PT X e (tT Ps (o1 asB E)) :=
  pt_imp (pt_val h he) fun σ H Q ⟨ρ, d, k, rel, e, q⟩ => by
    unfold o1 at e
    obtain ⟨x, e1, e⟩ := Option.bind_eq_some_iff.mp e
    refine ⟨ρ, x, k, rel, e1, fun v1 H1 s1 k1 r1 => ?_⟩
    cases r1 <;> simp only [asB] at e <;> cases e
    exact ⟨_, rfl, q _ s1 k1⟩
theorem pdt_not {Ec : DEnv → Option Bool} (ha : PT X a (tT Ps Ec)) : PT X (.UnaryOp .Not a pos) (tT Ps (oNot Ec)) := pt_imp (pt_not ha) fun σ H Q ⟨ρ, d, k, rel, e, q⟩ => by
  unfold oNot at e
  obtain ⟨x, e1, e⟩ := Option.bind_eq_some_iff.mp e
  cases e
  exact ⟨ρ, x, k, rel, e1, fun H1 s1 k1 => q _ s1 k1⟩
section
variable {rest : List Expr} {Ec Ed : DEnv → Option Bool}
theorem pdw_and1 (ha : PT X a (tT Ps Ec)) : PW X (.BoolOp .And [a] pos) (tT Ps Ec) := pw_and1 ha
theorem pdw_or1 (ha : PT X a (tT Ps Ec)) : PW X (.BoolOp .Or [a] pos) (tT Ps Ec) := pw_or1 ha
theorem pdw_and (ha : PT X a (tT Ps Ec)) (hb : PW X (.BoolOp .And (b :: rest) pos) (tT Ps Ed)) : PW X (.BoolOp .And (a :: b :: rest) pos) (tT Ps (oAnd Ec Ed)) :=
  pw_imp (pw_and ha hb) fun σ H Q ⟨ρ, d, k, rel, e, q⟩ => by
    unfold oAnd at e
    obtain ⟨x, e1, e⟩ := Option.bind_eq_some_iff.mp e
    refine ⟨ρ, x, k, rel, e1, fun H1 s1 k1 => ?_⟩
    cases x with
    | true => exact iteT ⟨ρ, d, k1, rel.mono k s1, e, fun H2 s2 k2 => q _ (s1.trans s2) k2⟩
    | false =>
      cases e
      exact iteF (q _ s1 k1)
theorem pdw_or (ha : PT X a (tT Ps Ec)) (hb : PW X (.BoolOp .Or (b :: rest) pos) (tT Ps Ed)) : PW X (.BoolOp .Or (a :: b :: rest) pos) (tT Ps (oOr Ec Ed)) :=
  pw_imp (pw_or ha hb) fun σ H Q ⟨ρ, d, k, rel, e, q⟩ => by
    unfold oOr at e
    obtain ⟨x, e1, e⟩ := Option.bind_eq_some_iff.mp e
    refine ⟨ρ, x, k, rel, e1, fun H1 s1 k1 => ?_⟩
    cases x with
    | true =>
      cases e
      exact iteT (q _ s1 k1)
    | false => exact iteF ⟨ρ, d, k1, rel.mono k s1, e, fun H2 s2 k2 => q _ (s1.trans s2) k2⟩
/-- as values: bools -/
theorem pd_and (ha : PE X a (tD Ps (oB Ec))) (hb : PE X (.BoolOp .And (b :: rest) pos) (tD Ps (oB Ed))) : PE X (.BoolOp .And (a :: b :: rest) pos) (tD Ps (oB (oAnd Ec Ed))) :=
  pe_imp (pe_and ha hb) fun σ H Q ⟨ρ, d, k, rel, e, q⟩ => by
    unfold oB oAnd at e
    obtain ⟨t, e0, e⟩ := Option.bind_eq_some_iff.mp e
    obtain ⟨x, e1, e0⟩ := Option.bind_eq_some_iff.mp e0
    cases e
    refine ⟨ρ, .bool x, k, rel, by unfold oB; rw [e1]; rfl, fun v1 H1 s1 k1 r1 => ?_⟩
    cases r1
    refine ⟨x, rfl, ?_⟩
    cases x with
    | true => exact iteT ⟨ρ, .bool t, k1, rel.mono k s1, by unfold oB; rw [if_pos rfl] at e0; rw [e0]; rfl, q.later s1⟩
    | false =>
      cases e0
      exact iteF (q _ _ s1 k1 (.bl _))
theorem pd_or (ha : PE X a (tD Ps (oB Ec))) (hb : PE X (.BoolOp .Or (b :: rest) pos) (tD Ps (oB Ed))) : PE X (.BoolOp .Or (a :: b :: rest) pos) (tD Ps (oB (oOr Ec Ed))) :=
  pe_imp (pe_or ha hb) fun σ H Q ⟨ρ, d, k, rel, e, q⟩ => by
    unfold oB oOr at e
    obtain ⟨t, e0, e⟩ := Option.bind_eq_some_iff.mp e
    obtain ⟨x, e1, e0⟩ := Option.bind_eq_some_iff.mp e0
    cases e
    refine ⟨ρ, .bool x, k, rel, by unfold oB; rw [e1]; rfl, fun v1 H1 s1 k1 r1 => ?_⟩
    cases r1
    refine ⟨x, rfl, ?_⟩
    cases x with
    | true =>
      cases e0
      exact iteT (q _ _ s1 k1 (.bl _))
    | false => exact iteF ⟨ρ, .bool t, k1, rel.mono k s1, by unfold oB; rw [if_neg (by decide)] at e0; rw [e0]; rfl, q.later s1⟩
theorem pd_one {op} (ha : PE X a (tD Ps Ea)) : PE X (.BoolOp op [a] pos) (tD Ps Ea) := pe_one ha
theorem pd_not (ha : PE X a (tD Ps (oB Ec))) : PE X (.UnaryOp .Not a pos) (tD Ps (oB (oNot Ec))) := pe_imp (pe_not ha) fun σ H Q ⟨ρ, d, k, rel, e, q⟩ => by
  unfold oB oNot at e
  obtain ⟨t, e0, e⟩ := Option.bind_eq_some_iff.mp e
  obtain ⟨x, e1, e0⟩ := Option.bind_eq_some_iff.mp e0
  cases e
  cases e0
  refine ⟨ρ, .bool x, k, rel, by unfold oB; rw [e1]; rfl, fun v1 H1 s1 k1 r1 => ?_⟩
  cases r1
  exact ⟨x, rfl, q _ _ s1 k1 (.bl _)⟩
theorem pd_if (hc : PT X c (tT Ps Ec)) (ha : PE X a (tD Ps Ea)) (hb : PE X b (tD Ps Eb)) : PE X (.IfExp c a b pos) (tD Ps (oIf Ec Ea Eb)) :=
  pe_imp (pe_ifExp hc ha hb) fun σ H Q ⟨ρ, d, k, rel, e, q⟩ => by
    unfold oIf at e
    obtain ⟨x, e1, e⟩ := Option.bind_eq_some_iff.mp e
    refine ⟨ρ, x, k, rel, e1, fun H1 s1 k1 => ?_⟩
    cases x with
    | true => exact iteT ⟨ρ, d, k1, rel.mono k s1, e, q.later s1⟩
    | false => exact iteF ⟨ρ, d, k1, rel.mono k s1, e, q.later s1⟩
end
/-! argument lists, displays -/
theorem pda_nil : PA X [] (tAs Ps oNil) := pa_imp pa_nil fun σ H Q ⟨ρ, ds, k, rel, e, q⟩ => by
  cases e
  exact q [] H .refl k .nil
theorem pda_cons {e : Expr} {es : List Expr} {Es : DEnv → Option (List PyData)} (h1 : PE X e (tD Ps Ea)) (h2 : PA X es (tAs Ps Es))
    (hs : starEach (e :: es) X.env = (false, eval e X.env) :: starEach es X.env := by rfl) : PA X (e :: es) (tAs Ps (oCons Ea Es)) :=
  pa_imp (pa_cons h1 h2 hs) fun σ H Q ⟨ρ, ds, k, rel, e, q⟩ => by
    unfold oCons at e
    obtain ⟨x, e1, e⟩ := Option.bind_eq_some_iff.mp e
    obtain ⟨y, e2, e⟩ := Option.bind_eq_some_iff.mp e
    cases e
    refine ⟨ρ, x, k, rel, e1, fun v1 H1 s1 k1 r1 => ⟨ρ, y, k1, rel.mono k s1, e2, fun vs H2 s2 k2 r2 => ?_⟩⟩
    exact q _ _ (s1.trans s2) k2 (.cons (Rp.mono k1 s2 _ _ r1) r2)
end
end LL
set_option Elab.async false
set_option linter.all false
set_option maxRecDepth 100000
set_option autoImplicit false
/-! Operators, subscripts, slices, built-in calls by data. -/
namespace LL
open PySem PySem.Spec PyProof.Rows L2
variable [Wd]

/-! ### the functions on data -/
def addD : PyData → PyData → Option PyData
  | .int i, .int j => some (.int (i + j))
  | .tuple a, .tuple b => if a.length + b.length ≤ sizeLine then some (.tuple (a ++ b)) else none
  | .list a, .list b => if a.length + b.length ≤ sizeLine then some (.list (a ++ b)) else none
  | _, _ => none
def subD : PyData → PyData → Option PyData
  | .int i, .int j => some (.int (i - j))
  | _, _ => none
def mulD : PyData → PyData → Option PyData
  | .int i, .int j => if -(2 ^ 64) < i ∧ i < 2 ^ 64 then some (.int (i * j)) else none
  | .list a, .int k => if -(2 ^ 63) ≤ k ∧ k < 2 ^ 63 ∧ a.length * k.toNat ≤ sizeLine then some (.list (List.replicate k.toNat a).flatten) else none
  | .tuple a, .int k => if a ≠ [] ∧ 2 ≤ k ∧ k ≤ 1000 ∧ a.length ≤ 1000 then some (.tuple (List.replicate k.toNat a).flatten) else none
  | _, _ => none
def ltD : PyData → PyData → Option Bool
  | .int i, .int j => some (decide (i < j))
  | _, _ => none
def leD : PyData → PyData → Option Bool
  | .int i, .int j => some (decide (i ≤ j))
  | _, _ => none
def gtD : PyData → PyData → Option Bool
  | .int i, .int j => some (decide (j < i))
  | _, _ => none
def geD : PyData → PyData → Option Bool
  | .int i, .int j => some (decide (j ≤ i))
  | _, _ => none
def eqD (a b : PyData) : Option Bool := if SeqAt.shaped a = true ∧ SeqAt.shaped b = true then some (PyData.eqv a b) else none
def neD (a b : PyData) : Option Bool := if SeqAt.shaped a = true ∧ SeqAt.shaped b = true then some (!PyData.eqv a b) else none
def isNoneD : PyData → Bool
  | .none => true
  | _ => false
def isD (a b : PyData) : Option Bool := if isNoneD b = true then some (isNoneD a) else none
def notD (a b : PyData) : Option Bool := if isNoneD b = true then some (!isNoneD a) else none
def intsOf : List PyData → Option (List Int)
  | [] => some []
  | .int i :: r => (intsOf r).bind fun l => some (i :: l)
  | _ :: _ => none
theorem intsOf_map : ∀ {ds : List PyData} {ns : List Int}, intsOf ds = some ns → ds = ns.map PyData.int
  | [], _, h => by cases h; rfl
  | d :: r, ns, h => by
    cases d with
    | int i =>
      unfold intsOf at h
      obtain ⟨l, h1, h2⟩ := Option.bind_eq_some_iff.mp h
      cases h2
      rw [intsOf_map h1]
      rfl
    | _ => simp [intsOf] at h
theorem intsOf_of (ns : List Int) : intsOf (ns.map PyData.int) = some ns := by
  induction ns with
  | nil => rfl
  | cons n r ih => show ((intsOf (r.map PyData.int)).bind fun l => some (n :: l)) = _; rw [ih]; rfl
def inD : PyData → PyData → Option Bool
  | d, .list ds => if SeqAt.shaped d = true ∧ SeqAt.shaped (.list ds) = true then some (ds.any fun z => PyData.eqv z d) else none
  | .int i, .tuple ds => (intsOf ds).bind fun ns => some (ns.any fun z => z == i)
  | _, _ => none
def ixD : PyData → PyData → Option PyData
  | .tuple a, .int i => atI a i
  | .list a, .int i => atI a i
  | _, _ => none
def lenD : PyData → Option PyData
  | .tuple a => some (.int a.length)
  | .list a => some (.int a.length)
  | _ => none
def cutD (xs : List PyData) (lo hi : Option Int) : List PyData := (xs.drop (HT.sIx xs.length 0 lo)).take (HT.sIx xs.length xs.length hi - HT.sIx xs.length 0 lo)
def asI : PyData → Option Int
  | .int i => some i
  | _ => none
def sliceD (x : PyData) (lo hi : Option Int) : Option PyData := match x with
  | .tuple a => some (.tuple (cutD a lo hi))
  | _ => none
def tupD : PyData → Option PyData
  | .list a => some (.tuple a)
  | .tuple a => some (.tuple a)
  | _ => none
def rgD (a b : Int) : List PyData := (List.range (b - a).toNat).map fun i => PyData.int (a + (i : Nat))
def maxL : List Int → Option Int
  | [] => none
  | x :: r => some (r.foldl max x)
def minL : List Int → Option Int
  | [] => none
  | x :: r => some (r.foldl min x)
def maxD : PyData → Option PyData
  | .list a => ((intsOf a).bind maxL).bind fun m => some (.int m)
  | _ => none
def minD : PyData → Option PyData
  | .list a => ((intsOf a).bind minL).bind fun m => some (.int m)
  | _ => none
def kindD : PyData → String
  | .none => "NoneType"
  | .bool _ => "bool"
  | .int _ => "int"
  | .str _ => "str"
  | .list _ => "list"
  | .tuple _ => "tuple"
  | .dict kvs => match kvs with
    | [(.none, .bool true)] => "list"
    | [(.none, .bool false)] => "dict"
    | _ => "?"
def isaD (T : String) (d : PyData) : Option Bool := if kindD d = "?" then none else kitB (kindD d) T

/-! ### their rules -/
theorem ifs {c : Prop} [Decidable c] {α : Type} {x d : α} (h : (if c then some x else none) = some d) : c ∧ x = d := by
  by_cases k : c
  · rw [if_pos k] at h
    exact ⟨k, Option.some.inj h⟩
  · rw [if_neg k] at h
    cases h
theorem RpA.int_all {H : Hp} {vs : List V} {ds : List PyData} {ns : List Int} (h : RpA H vs ds) (e : intsOf ds = some ns) : vs = ns.map V.int := by
  rw [intsOf_map e] at h
  exact RpA.ints h
theorem maxL_spec : ∀ {l : List Int} {m : Int}, maxL l = some m → m ∈ l ∧ ∀ y ∈ l, y ≤ m
  | [], _, h => by cases h
  | x :: r, m, h => by
    have e : r.foldl max x = m := Option.some.inj h
    have g : ∀ (r : List Int) (x : Int), (r.foldl max x = x ∨ r.foldl max x ∈ r) ∧ x ≤ r.foldl max x ∧ ∀ y ∈ r, y ≤ r.foldl max x := by
      intro r
      induction r with
      | nil => intro x; exact ⟨.inl rfl, Int.le_refl _, fun y hy => absurd hy (by simp)⟩
      | cons z r ih =>
        intro x
        obtain ⟨h1, h2, h3⟩ := ih (max x z)
        rw [List.foldl_cons]
        refine ⟨?_, by omega, fun y hy => ?_⟩
        · rcases h1 with h1 | h1
          · rw [h1]
            by_cases q : x ≤ z
            · right; rw [Int.max_eq_right q]; exact List.mem_cons_self
            · left; exact Int.max_eq_left (by omega)
          · right; exact List.mem_cons_of_mem _ h1
        · rcases List.mem_cons.mp hy with rfl | hy
          · omega
          · exact h3 y hy
    obtain ⟨h1, h2, h3⟩ := g r x
    rw [e] at h1 h2 h3
    refine ⟨?_, fun y hy => ?_⟩
    · rcases h1 with rfl | h1
      · exact List.mem_cons_self
      · exact List.mem_cons_of_mem _ h1
    · rcases List.mem_cons.mp hy with rfl | hy
      · exact h2
      · exact h3 y hy
theorem minL_spec : ∀ {l : List Int} {m : Int}, minL l = some m → m ∈ l ∧ ∀ y ∈ l, m ≤ y
  | [], _, h => by cases h
  | x :: r, m, h => by
    have e : r.foldl min x = m := Option.some.inj h
    have g : ∀ (r : List Int) (x : Int), (r.foldl min x = x ∨ r.foldl min x ∈ r) ∧ r.foldl min x ≤ x ∧ ∀ y ∈ r, r.foldl min x ≤ y := by
      intro r
      induction r with
      | nil => intro x; exact ⟨.inl rfl, Int.le_refl _, fun y hy => absurd hy (by simp)⟩
      | cons z r ih =>
        intro x
        obtain ⟨h1, h2, h3⟩ := ih (min x z)
        rw [List.foldl_cons]
        refine ⟨?_, by omega, fun y hy => ?_⟩
        · rcases h1 with h1 | h1
          · rw [h1]
            by_cases q : x ≤ z
            · left; exact Int.min_eq_left q
            · right; rw [Int.min_eq_right (by omega)]; exact List.mem_cons_self
          · right; exact List.mem_cons_of_mem _ h1
        · rcases List.mem_cons.mp hy with rfl | hy
          · omega
          · exact h3 y hy
    obtain ⟨h1, h2, h3⟩ := g r x
    rw [e] at h1 h2 h3
    refine ⟨?_, fun y hy => ?_⟩
    · rcases h1 with rfl | h1
      · exact List.mem_cons_self
      · exact List.mem_cons_of_mem _ h1
    · rcases List.mem_cons.mp hy with rfl | hy
      · exact h2
      · exact h3 y hy

section
variable {X : Cx} {Ps : List Addr} {a b c : Expr} {pos : Pos} {Ea Eb Ec : DEnv → Option PyData}
theorem pd_add (ha : PE X a (tD Ps Ea)) (hb : PE X b (tD Ps Eb)) : PE X (.BinOp a .Add b pos) (tD Ps (o2 addD Ea Eb)) :=
  pd_op (OpR.or (OpR.or op_add op_catA) op_cat) (fun H x y a b d Q k r1 r2 e q => by
    cases r1 with
    | int i =>
      cases r2 with
      | int j =>
        cases e
        exact .inl (.inl ⟨_, _, rfl, rfl, q.here k (.int _)⟩)
      | _ => cases e
    | tup e1 a1 =>
      cases r2 with
      | tup e2 a2 =>
        rename_i xs ds _ ys es
        obtain ⟨hl, rfl⟩ := ifs (show (if ds.length + es.length ≤ sizeLine then some (PyData.tuple (ds ++ es)) else none) = some d from e)
        refine .inl (.inr ⟨_, _, _, _, rfl, rfl, SqT.of e1, SqT.of e2, by rw [a1.length, a2.length]; exact hl, fun h0 => ?_, fun h0 h1 => ?_, fun h0 h1 p hp => ?_⟩)
        · subst h0
          cases a1
          exact q.here k (.tup e2 a2)
        · subst h1
          cases a2
          rw [List.append_nil] at q
          exact q.here k (.tup e1 a1)
        · exact q.tup k (a1.append a2) hp
      | _ => cases e
    | lst e1 a1 =>
      cases r2 with
      | lst e2 a2 =>
        rename_i xs ds _ ys es
        obtain ⟨hl, rfl⟩ := ifs (show (if ds.length + es.length ≤ sizeLine then some (PyData.list (ds ++ es)) else none) = some d from e)
        exact .inr ⟨_, _, _, _, rfl, rfl, e1, e2, by rw [a1.length, a2.length]; exact hl, fun p hp => q.lst k (a1.append a2) hp⟩
      | _ => cases e
    | _ => cases e) ha hb
theorem pd_sub (ha : PE X a (tD Ps Ea)) (hb : PE X b (tD Ps Eb)) : PE X (.BinOp a .Sub b pos) (tD Ps (o2 subD Ea Eb)) :=
  pd_op op_sub (fun H x y a b d Q k r1 r2 e q => by
    cases r1 with
    | int i =>
      cases r2 with
      | int j =>
        cases e
        exact ⟨_, _, rfl, rfl, q.here k (.int _)⟩
      | _ => cases e
    | _ => cases e) ha hb
theorem pd_mul (ha : PE X a (tD Ps Ea)) (hb : PE X b (tD Ps Eb)) : PE X (.BinOp a .Mult b pos) (tD Ps (o2 mulD Ea Eb)) :=
  pd_op (OpR.or (OpR.or op_mul op_rep) op_repT) (fun H x y a b d Q k r1 r2 e q => by
    cases r1 with
    | int i =>
      cases r2 with
      | int j =>
        obtain ⟨hl, rfl⟩ := ifs (show (if -(2 ^ 64) < i ∧ i < 2 ^ 64 then some (PyData.int (i * j)) else none) = some d from e)
        exact .inl (.inl ⟨_, _, rfl, rfl, .inl hl, q.here k (.int _)⟩)
      | _ => cases e
    | lst e1 a1 =>
      rename_i xs ds
      cases r2 with
      | int j =>
        obtain ⟨hl, rfl⟩ := ifs (show (if -(2 ^ 63) ≤ j ∧ j < 2 ^ 63 ∧ ds.length * j.toNat ≤ sizeLine then some (PyData.list (List.replicate j.toNat ds).flatten) else none) = some d from e)
        exact .inl (.inr ⟨_, _, _, rfl, rfl, e1, hl.1, hl.2.1, by rw [a1.length]; exact hl.2.2, fun p hp => q.lst k (a1.reps _) hp⟩)
      | _ => cases e
    | tup e1 a1 =>
      rename_i xs ds
      cases r2 with
      | int j =>
        obtain ⟨hl, rfl⟩ := ifs (show (if ds ≠ [] ∧ 2 ≤ j ∧ j ≤ 1000 ∧ ds.length ≤ 1000 then some (PyData.tuple (List.replicate j.toNat ds).flatten) else none) = some d from e)
        refine .inr ⟨_, _, _, rfl, rfl, SqT.of e1, fun z => ?_, hl.2.1, hl.2.2.1, by rw [a1.length]; exact hl.2.2.2, fun p hp => q.tup k (a1.reps _) hp⟩
        subst z
        cases a1
        exact hl.1 rfl
      | _ => cases e
    | _ => cases e) ha hb
theorem int2 {g : Int → Int → Bool} {F : PyData → PyData → Option Bool} (hF : ∀ a b d, F a b = some d → ∃ i j, a = .int i ∧ b = .int j ∧ d = g i j) :
    ∀ H x y a b d Q, Ok Ps H → Rp H x a → Rp H y b → F a b = some d → Q (V.bl d) H → (rI0 fun i j => .bl (g i j)) x y H Q := fun H x y a b d Q k r1 r2 e q => by
  obtain ⟨i, j, rfl, rfl, rfl⟩ := hF a b d e
  cases r1
  cases r2
  exact ⟨i, j, rfl, rfl, q⟩
theorem lt_inv (a b : PyData) (d : Bool) (h : ltD a b = some d) : ∃ i j, a = .int i ∧ b = .int j ∧ d = decide (i < j) := by
  cases a <;> cases b <;> first | (cases h; exact ⟨_, _, rfl, rfl, rfl⟩) | (simp [ltD] at h)
theorem le_inv (a b : PyData) (d : Bool) (h : leD a b = some d) : ∃ i j, a = .int i ∧ b = .int j ∧ d = decide (i ≤ j) := by
  cases a <;> cases b <;> first | (cases h; exact ⟨_, _, rfl, rfl, rfl⟩) | (simp [leD] at h)
theorem gt_inv (a b : PyData) (d : Bool) (h : gtD a b = some d) : ∃ i j, a = .int i ∧ b = .int j ∧ d = decide (j < i) := by
  cases a <;> cases b <;> first | (cases h; exact ⟨_, _, rfl, rfl, rfl⟩) | (simp [gtD] at h)
theorem ge_inv (a b : PyData) (d : Bool) (h : geD a b = some d) : ∃ i j, a = .int i ∧ b = .int j ∧ d = decide (j ≤ i) := by
  cases a <;> cases b <;> first | (cases h; exact ⟨_, _, rfl, rfl, rfl⟩) | (simp [geD] at h)
/-- the comparisons: the operator's rule by data -/
structure CmpD (X : Cx) (Ps : List Addr) (op : CmpOp) (F : PyData → PyData → Option Bool) : Prop where
  rule : ∃ r : R2, OpR X (compareOp op) r ∧ ∀ H x y a b d Q, Ok Ps H → Rp H x a → Rp H y b → F a b = some d → Q (V.bl d) H → r x y H Q
theorem cd_lt : CmpD X Ps .Lt ltD := ⟨_, op_lt, int2 lt_inv⟩
theorem cd_le : CmpD X Ps .LtE leD := ⟨_, op_le, int2 le_inv⟩
theorem cd_gt : CmpD X Ps .Gt gtD := ⟨_, op_gt, int2 gt_inv⟩
theorem cd_ge : CmpD X Ps .GtE geD := ⟨_, op_ge, int2 ge_inv⟩
theorem cd_eq (hu : X.A.units + 64 < cLine) : CmpD X Ps .Eq eqD := ⟨_, op_eqD hu, fun H x y a b d Q k r1 r2 e q => by
  unfold eqD at e
  split at e
  · rename_i h
    cases e
    exact ⟨a, b, Rp.dp _ _ (SeqAt.canLay_of_shaped h.1) r1, Rp.dp _ _ (SeqAt.canLay_of_shaped h.2) r2, h.1, h.2, q⟩
  · cases e⟩
theorem cd_ne (hu : X.A.units + 64 < cLine) : CmpD X Ps .NotEq neD := ⟨_, op_neD hu, fun H x y a b d Q k r1 r2 e q => by
  unfold neD at e
  split at e
  · rename_i h
    cases e
    exact ⟨a, b, Rp.dp _ _ (SeqAt.canLay_of_shaped h.1) r1, Rp.dp _ _ (SeqAt.canLay_of_shaped h.2) r2, h.1, h.2, q⟩
  · cases e⟩
theorem none_iff {H : Hp} {x : V} {a : PyData} (r : Rp H x a) : decide (x = V.non) = isNoneD a := by
  cases r <;> simp [isNoneD, opL, opD]
theorem cd_is : CmpD X Ps .Is isD := ⟨_, op_isN, fun H x y a b d Q k r1 r2 e q => by
  unfold isD at e
  split at e
  · rename_i h
    cases e
    refine ⟨?_, ?_⟩
    · cases r2 <;> simp [isNoneD, opL, opD] at h
      rfl
    · rw [none_iff r1]; exact q
  · cases e⟩
theorem cd_isnot : CmpD X Ps .IsNot notD := ⟨_, op_notN, fun H x y a b d Q k r1 r2 e q => by
  unfold notD at e
  split at e
  · rename_i h
    cases e
    refine ⟨?_, ?_⟩
    · cases r2 <;> simp [isNoneD, opL, opD] at h
      rfl
    · rw [none_iff r1]; exact q
  · cases e⟩
theorem flat_ints (ns : List Int) : (ns.map V.int).all flatV = true := by
  rw [List.all_map]
  exact List.all_eq_true.mpr fun _ _ => rfl
theorem inV_ints (i : Int) (ns : List Int) : inV (.int i) (ns.map V.int) = ns.any fun z => z == i := by
  unfold inV
  rw [List.any_map]
  rfl
theorem cd_in (hu : X.A.units + 65 < cLine) : CmpD X Ps .In inD := ⟨_, OpR.or (op_inD hu) op_in_seq, fun H x y a b d Q k r1 r2 e q => by
  cases b with
  | list ds =>
    have e : (if SeqAt.shaped a = true ∧ SeqAt.shaped (.list ds) = true then some (ds.any fun z => PyData.eqv z a) else none) = some d := by
      cases a <;> exact e
    split at e
    · rename_i h
      cases e
      exact .inl ⟨a, ds, Rp.dp _ _ (SeqAt.canLay_of_shaped h.1) r1, Rp.dp _ _ (SeqAt.canLay_of_shaped h.2) r2, h.1, h.2, q⟩
    · cases e
  | tuple ds =>
    cases r1 with
    | int i =>
      unfold inD at e
      obtain ⟨ns, e1, e2⟩ := Option.bind_eq_some_iff.mp e
      cases e2
      cases r2 with
      | tup h1 h2 =>
        have e3 := h2.int_all e1
        subst e3
        refine .inr ⟨_, _, rfl, .inr (SqT.of h1), rfl, flat_ints ns, ?_⟩
        rw [if_neg (by decide), inV_ints]
        exact q
    | _ => simp [inD] at e
  | _ => cases a <;> simp [inD] at e⟩
theorem cd_notin (hu : X.A.units + 65 < cLine) : CmpD X Ps .NotIn (fun a b => (inD a b).map (!·)) := ⟨_, OpR.or (op_notInD hu) op_notIn_seq, fun H x y a b d Q k r1 r2 e q => by
  obtain ⟨d', e9, rfl⟩ := Option.map_eq_some_iff.mp e
  clear e
  cases b with
  | list ds =>
    have e : (if SeqAt.shaped a = true ∧ SeqAt.shaped (.list ds) = true then some (ds.any fun z => PyData.eqv z a) else none) = some d' := by
      cases a <;> exact e9
    split at e
    · rename_i h
      cases e
      exact .inl ⟨a, ds, Rp.dp _ _ (SeqAt.canLay_of_shaped h.1) r1, Rp.dp _ _ (SeqAt.canLay_of_shaped h.2) r2, h.1, h.2, q⟩
    · cases e
  | tuple ds =>
    cases r1 with
    | int i =>
      unfold inD at e9
      obtain ⟨ns, e1, e2⟩ := Option.bind_eq_some_iff.mp e9
      cases e2
      cases r2 with
      | tup h1 h2 =>
        have e3 := h2.int_all e1
        subst e3
        refine .inr ⟨_, _, rfl, .inr (SqT.of h1), rfl, flat_ints ns, ?_⟩
        rw [if_pos rfl, inV_ints]
        exact q
    | _ => simp [inD] at e9
  | _ => cases a <;> simp [inD] at e9⟩
theorem pd_cm {op : CmpOp} {F : PyData → PyData → Option Bool} (h : CmpD X Ps op F) (ha : PE X a (tD Ps Ea)) (hb : PE X b (tD Ps Eb)) (hm : behindInMarks op b = false) : PE X (.Compare a [op] [b] pos) (tD Ps (oB (o2 F Ea Eb))) :=
  let ⟨_, h1, h2⟩ := h.rule
  pd_cmp h1 h2 ha hb hm
theorem pdt_cm {op : CmpOp} {F : PyData → PyData → Option Bool} (h : CmpD X Ps op F) (ha : PE X a (tD Ps Ea)) (hb : PE X b (tD Ps Eb)) (hm : behindInMarks op b = false) : PT X (.Compare a [op] [b] pos) (tT Ps (o2 F Ea Eb)) :=
  let ⟨_, h1, h2⟩ := h.rule
  pdt_cmp h1 h2 ha hb hm
/-- a op b op' c -/
def oCh (F F' : PyData → PyData → Option Bool) (Ea Eb Ec : DEnv → Option PyData) : DEnv → Option Bool := fun ρ =>
  (Ea ρ).bind fun a => (Eb ρ).bind fun b => (F a b).bind fun t => if t = true then (Ec ρ).bind fun c => F' b c else some false
theorem pd_ch {op op' : CmpOp} {F F' : PyData → PyData → Option Bool} (h : CmpD X Ps op F) (h' : CmpD X Ps op' F') (ha : PE X a (tD Ps Ea)) (hb : PE X b (tD Ps Eb)) (hc : PE X c (tD Ps Ec))
    (hm : lastMarks [op, op'] [b, c] = false := by with_unfolding_all rfl) : PE X (.Compare a [op, op'] [b, c] pos) (tD Ps (oB (oCh F F' Ea Eb Ec))) := by
  obtain ⟨r, h1, h2⟩ := h.rule
  obtain ⟨r', h1', h2'⟩ := h'.rule
  refine pe_imp (pe_chain h1 h1' ha hb hc hm) fun σ H Q ⟨ρ, d, k, rel, e, q⟩ => ?_
  unfold oB oCh at e
  obtain ⟨t, e0, e⟩ := Option.bind_eq_some_iff.mp e
  cases e
  obtain ⟨x, e1, e0⟩ := Option.bind_eq_some_iff.mp e0
  obtain ⟨y, e2, e0⟩ := Option.bind_eq_some_iff.mp e0
  obtain ⟨u, e3, e0⟩ := Option.bind_eq_some_iff.mp e0
  refine ⟨ρ, x, k, rel, e1, fun v1 H1 s1 k1 r1 => ⟨ρ, y, k1, rel.mono k s1, e2, fun v2 H2 s2 k2 r2 => ?_⟩⟩
  refine h2 H2 v1 v2 x y u _ k2 (Rp.mono k1 s2 _ _ r1) r2 e3 ⟨u, rfl, ?_⟩
  cases u with
  | true =>
    rw [if_pos rfl] at e0
    obtain ⟨z, e4, e5⟩ := Option.bind_eq_some_iff.mp e0
    refine iteT ⟨ρ, z, k2, (rel.mono k s1).mono k1 s2, e4, fun v3 H3 s3 k3 r3 => ?_⟩
    exact h2' H3 v2 v3 y z t Q k3 (Rp.mono k2 s3 _ _ r2) r3 e5 (q _ _ ((s1.trans s2).trans s3) k3 (.bl _))
  | false =>
    cases e0
    exact iteF (q _ _ (s1.trans s2) k2 (.bl _))
theorem pdt_ch {op op' : CmpOp} {F F' : PyData → PyData → Option Bool} (h : CmpD X Ps op F) (h' : CmpD X Ps op' F') (ha : PE X a (tD Ps Ea)) (hb : PE X b (tD Ps Eb)) (hc : PE X c (tD Ps Ec))
    (hm : lastMarks [op, op'] [b, c] = false := by with_unfolding_all rfl) : PT X (.Compare a [op, op'] [b, c] pos) (tT Ps (oCh F F' Ea Eb Ec)) := by
  obtain ⟨r, h1, h2⟩ := h.rule
  obtain ⟨r', h1', h2'⟩ := h'.rule
  refine pt_imp (pt_chain h1 h1' ha hb hc hm) fun σ H Q ⟨ρ, t, k, rel, e0, q⟩ => ?_
  unfold oCh at e0
  obtain ⟨x, e1, e0⟩ := Option.bind_eq_some_iff.mp e0
  obtain ⟨y, e2, e0⟩ := Option.bind_eq_some_iff.mp e0
  obtain ⟨u, e3, e0⟩ := Option.bind_eq_some_iff.mp e0
  refine ⟨ρ, x, k, rel, e1, fun v1 H1 s1 k1 r1 => ⟨ρ, y, k1, rel.mono k s1, e2, fun v2 H2 s2 k2 r2 => ?_⟩⟩
  refine h2 H2 v1 v2 x y u _ k2 (Rp.mono k1 s2 _ _ r1) r2 e3 ⟨u, rfl, ?_⟩
  cases u with
  | true =>
    rw [if_pos rfl] at e0
    obtain ⟨z, e4, e5⟩ := Option.bind_eq_some_iff.mp e0
    refine iteT ⟨ρ, z, k2, (rel.mono k s1).mono k1 s2, e4, fun v3 H3 s3 k3 r3 => ?_⟩
    exact h2' H3 v2 v3 y z t _ k3 (Rp.mono k2 s3 _ _ r2) r3 e5 ⟨t, rfl, q _ ((s1.trans s2).trans s3) k3⟩
  | false =>
    cases e0
    exact iteF ⟨false, rfl, q _ (s1.trans s2) k2⟩

/-! subscripts, slices -/
theorem atI_get {H : Hp} {vs : List V} {ds : List PyData} {i : Int} {d : PyData} (r : RpA H vs ds) (h : atI ds i = some d) : ∃ v, atI vs i = some v ∧ Rp H v d := by
  unfold atI at h ⊢
  obtain ⟨j, h1, h2⟩ := Option.bind_eq_some_iff.mp h
  obtain ⟨v, e, rv⟩ := r.get h2
  exact ⟨v, by rw [r.length, h1]; exact e, rv.up⟩
theorem pd_ix (ha : PE X a (tD Ps Ea)) (hb : PE X b (tD Ps Eb)) (hs : PlainIx b := by exact fun _ _ => rfl) : PE X (.Subscript a b pos) (tD Ps (o2 ixD Ea Eb)) :=
  pe_imp (pe_ix ix_seq ha hb hs) fun σ H Q ⟨ρ, d, k, rel, e, q⟩ => by
    unfold o2 at e
    obtain ⟨x, e1, e⟩ := Option.bind_eq_some_iff.mp e
    obtain ⟨y, e2, e⟩ := Option.bind_eq_some_iff.mp e
    refine ⟨ρ, x, k, rel, e1, fun v1 H1 s1 k1 r1 => ⟨ρ, y, k1, rel.mono k s1, e2, fun v2 H2 s2 k2 r2 => ?_⟩⟩
    have r1' := Rp.mono k1 s2 _ _ r1
    cases r1' with
    | lst h1 h2 =>
      cases r2 with
      | int i =>
        obtain ⟨v, e3, rv⟩ := atI_get h2 (show atI _ i = some d from e)
        exact .inl ⟨_, _, i, v, rfl, rfl, SqL.of h1, e3, q _ _ (s1.trans s2) k2 rv⟩
      | _ => simp [ixD] at e
    | tup h1 h2 =>
      cases r2 with
      | int i =>
        obtain ⟨v, e3, rv⟩ := atI_get h2 (show atI _ i = some d from e)
        exact .inr (.inl ⟨_, _, i, v, rfl, rfl, SqT.of h1, e3, q _ _ (s1.trans s2) k2 rv⟩)
      | _ => simp [ixD] at e
    | _ => simp [ixD] at e
def tPt (Ps : List Addr) (E : DEnv → Option (Option Int)) : TO := fun σ H Q => ∃ ρ o, Ok Ps H ∧ Rel H σ ρ ∧ E ρ = some o ∧ ∀ H', Sm Ps H H' → Ok Ps H' → Q o H'
def oNoP : DEnv → Option (Option Int) := fun _ => some none
def oP (E : DEnv → Option PyData) : DEnv → Option (Option Int) := fun ρ => (E ρ).bind fun d => (asI d).bind fun i => some (some i)
theorem pdo_none : PO X none (tPt Ps oNoP) := ⟨fun pins s σ H Q I ⟨ρ, o, k, rel, e, q⟩ => by
  cases e
  exact po_none.run pins s σ H Q I (q H .refl k)⟩
theorem pdo_some (h : PE X a (tD Ps Ea)) : PO X (some a) (tPt Ps (oP Ea)) := ⟨fun pins s σ H Q I ⟨ρ, o, k, rel, e, q⟩ => by
  unfold oP at e
  obtain ⟨d, e1, e⟩ := Option.bind_eq_some_iff.mp e
  obtain ⟨i, e2, e⟩ := Option.bind_eq_some_iff.mp e
  cases e
  refine (po_some h).run pins s σ H Q I ⟨ρ, d, k, rel, e1, fun v H1 s1 k1 r1 => ?_⟩
  cases r1 <;> simp [asI] at e2
  subst e2
  exact ⟨_, rfl, q _ s1 k1⟩⟩
def oSl (Ea : DEnv → Option PyData) (El Eh : DEnv → Option (Option Int)) : DEnv → Option PyData := fun ρ => (Ea ρ).bind fun a => (El ρ).bind fun l => (Eh ρ).bind fun h => sliceD a l h
theorem RpA.cut {H : Hp} {vs : List V} {ds : List PyData} (r : RpA H vs ds) (lo hi : Option Int) : RpA H (cutV vs lo hi) (cutD ds lo hi) := by
  unfold cutV cutD
  rw [r.length]
  exact (r.drop _).take _
theorem pd_slice {lo hi : Option Expr} {p2 : Pos} {El Eh : DEnv → Option (Option Int)} (ha : PE X a (tD Ps Ea)) (hl : PO X lo (tPt Ps El)) (hu : PO X hi (tPt Ps Eh)) : PE X (.Subscript a (.Slice lo hi none p2) pos) (tD Ps (oSl Ea El Eh)) :=
  pe_imp (pe_slice sl_tupA ha hl hu) fun σ H Q ⟨ρ, d, k, rel, e, q⟩ => by
    unfold oSl at e
    obtain ⟨x, e1, e⟩ := Option.bind_eq_some_iff.mp e
    obtain ⟨l, e2, e⟩ := Option.bind_eq_some_iff.mp e
    obtain ⟨h, e3, e⟩ := Option.bind_eq_some_iff.mp e
    refine ⟨ρ, x, k, rel, e1, fun v1 H1 s1 k1 r1 => ⟨ρ, l, k1, rel.mono k s1, e2, fun H2 s2 k2 => ⟨ρ, h, k2, (rel.mono k s1).mono k1 s2, e3, fun H3 s3 k3 => ?_⟩⟩⟩
    have r1' := Rp.mono k1 (s2.trans s3) _ _ r1
    cases r1' with
    | @tup _ aa xs ds h1 h2 =>
      cases e
      have q' := q.later ((s1.trans s2).trans s3)
      refine ⟨_, _, rfl, SqT.of h1, fun hw => ?_, fun _ p hp => q'.tup k3 (h2.cut l h) hp⟩
      have e4 : cutD ds l h = ds := by
        unfold cutD
        rw [h2.length] at hw
        rw [hw.1, hw.2, Nat.sub_zero, List.drop_zero, List.take_length]
      rw [e4] at q'
      exact q'.here k3 (.tup h1 h2)
    | _ => cases e
/-! displays -/
def mkT (ds : List PyData) : Option PyData := if ds.length ≤ sizeLine ∧ ds.all notL = true then some (.tuple ds) else none
def mkL (ds : List PyData) : Option PyData := if ds.length ≤ sizeLine ∧ ds.all notL = true then some (.list ds) else none
theorem pd_tup {es : List Expr} {x1 : Nat} {Es : DEnv → Option (List PyData)} (h : PA X es (tAs Ps Es)) : PE X (.Tuple es x1 pos) (tD Ps (oL mkT Es)) :=
  pe_imp (pe_tup h) fun σ H Q ⟨ρ, d, k, rel, e, q⟩ => by
    unfold oL at e
    obtain ⟨ds, e1, e⟩ := Option.bind_eq_some_iff.mp e
    obtain ⟨hl, rfl⟩ := ifs e
    exact ⟨ρ, ds, k, rel, e1, fun vs H1 s1 k1 r1 => ⟨by rw [r1.length]; exact hl.1, fun p hp => (q.later s1).tup k1 (r1.im hl.2) hp⟩⟩
theorem pd_lst {es : List Expr} {Es : DEnv → Option (List PyData)} (h : PA X es (tAs Ps Es)) : PE X (.List es pos) (tD Ps (oL mkL Es)) :=
  pe_imp (pe_lst h) fun σ H Q ⟨ρ, d, k, rel, e, q⟩ => by
    unfold oL at e
    obtain ⟨ds, e1, e⟩ := Option.bind_eq_some_iff.mp e
    obtain ⟨hl, rfl⟩ := ifs e
    exact ⟨ρ, ds, k, rel, e1, fun vs H1 s1 k1 r1 => ⟨by rw [r1.length]; exact hl.1, fun p hp => (q.later s1).lst k1 (r1.im hl.2) hp⟩⟩
/-! built-in calls -/
def on1 {β : Type} (F : PyData → Option β) : List PyData → Option β
  | [d] => F d
  | _ => none
theorem pd_len {p : Pos} (hg : Gl X "len") (hm : X.mg "len" = none) (ha : PE X a (tD Ps Ea)) (he : starEach [a] X.env = (false, eval a X.env) :: starEach [] X.env := by rfl) : PE X (.Call (.Name "len" p) [a] [] pos) (tD Ps (o1 lenD Ea)) :=
  pe_imp (pe_callB call_len_seq hg hm PySem.boot_len (pa_cons ha pa_nil he) (he := he)) fun σ H Q ⟨ρ, d, k, rel, e, q⟩ => by
    unfold o1 at e
    obtain ⟨x, e1, e⟩ := Option.bind_eq_some_iff.mp e
    refine ⟨ρ, x, k, rel, e1, fun v1 H1 s1 k1 r1 => ?_⟩
    cases r1 with
    | lst h1 h2 =>
      cases e
      exact ⟨_, _, rfl, .inl (SqL.of h1), by rw [h2.length]; exact q _ _ s1 k1 (.int _)⟩
    | tup h1 h2 =>
      cases e
      exact ⟨_, _, rfl, .inr (SqT.of h1), by rw [h2.length]; exact q _ _ s1 k1 (.int _)⟩
    | _ => cases e
theorem pd_tuple {p : Pos} (hg : Gl X "tuple") (hm : X.mg "tuple" = none) (ha : PE X a (tD Ps Ea)) (he : starEach [a] X.env = (false, eval a X.env) :: starEach [] X.env := by rfl) : PE X (.Call (.Name "tuple" p) [a] [] pos) (tD Ps (o1 tupD Ea)) :=
  pe_imp (pe_callTy call_tuple_of hg hm boot_tuple (pa_cons ha pa_nil he) (he := he)) fun σ H Q ⟨ρ, d, k, rel, e, q⟩ => by
    unfold o1 at e
    obtain ⟨x, e1, e⟩ := Option.bind_eq_some_iff.mp e
    refine ⟨ρ, x, k, rel, e1, fun v1 H1 s1 k1 r1 => ?_⟩
    cases r1 with
    | lst h1 h2 =>
      cases e
      exact ⟨_, _, rfl, .inl ⟨SqL.of h1, fun l hl => (q.later s1).tup k1 h2 hl⟩⟩
    | tup h1 h2 =>
      cases e
      exact ⟨_, _, rfl, .inr ⟨SqT.of h1, q _ _ s1 k1 (.tup h1 h2)⟩⟩
    | _ => cases e
def oRg1 (Ea : DEnv → Option PyData) : DEnv → Option PyData := fun ρ => (Ea ρ).bind fun a => (asI a).bind fun n => if n ≤ 16777216 ∧ 0 ≤ n then some (.tuple (rgD 0 n)) else none
def oRg2 (Ea Eb : DEnv → Option PyData) : DEnv → Option PyData := fun ρ => (Ea ρ).bind fun a => (Eb ρ).bind fun b => (asI a).bind fun m => (asI b).bind fun n => if -16777216 ≤ m ∧ n ≤ 16777216 ∧ m ≤ n ∧ n - m ≤ 16777216 then some (.tuple (rgD m n)) else none
theorem rp_rg {H : Hp} (a b : Int) : RpA H (rgV a b) (rgD a b) := by
  unfold rgV rgD
  generalize List.range (b - a).toNat = l
  induction l with
  | nil => exact .nil
  | cons x r ih => exact .cons (.int _) ih
theorem pd_rg1 {p p2 pos2 : Pos} (hc : X.calm = true) (hg : Gl X "tuple") (hm : X.mg "tuple" = none) (hg2 : Gl X "range") (hm2 : X.mg "range" = none) (ha : PE X a (tD Ps Ea)) (na : starEach [a] X.env = (false, eval a X.env) :: starEach [] X.env := by rfl) :
    PE X (.Call (.Name "tuple" p) [.Call (.Name "range" p2) [a] [] pos2] [] pos) (tD Ps (oRg1 Ea)) :=
  pe_imp (pe_tupRg hc hg hm (prg_1 hg2 hm2 ha na)) fun σ H Q ⟨ρ, d, k, rel, e, q⟩ => by
    unfold oRg1 at e
    obtain ⟨x, e1, e⟩ := Option.bind_eq_some_iff.mp e
    obtain ⟨n, e2, e⟩ := Option.bind_eq_some_iff.mp e
    split at e
    · rename_i h
      cases e
      refine ⟨ρ, x, k, rel, e1, fun v1 H1 s1 k1 r1 => ?_⟩
      cases r1 <;> simp [asI] at e2
      subst e2
      refine ⟨_, rfl, ?_, fun p hp => (q.later s1).tup k1 (rp_rg 0 _) hp⟩
      unfold RgOk
      omega
    · cases e
theorem pd_rg2 {p p2 pos2 : Pos} (hc : X.calm = true) (hg : Gl X "tuple") (hm : X.mg "tuple" = none) (hg2 : Gl X "range") (hm2 : X.mg "range" = none) (ha : PE X a (tD Ps Ea)) (hb : PE X b (tD Ps Eb))
    (na : starEach [a, b] X.env = (false, eval a X.env) :: starEach [b] X.env := by rfl) (nb : starEach [b] X.env = (false, eval b X.env) :: starEach [] X.env := by rfl) (hp : (backTo pos2 (starEach [b] X.env)).any (·.1) = false := by rfl) :
    PE X (.Call (.Name "tuple" p) [.Call (.Name "range" p2) [a, b] [] pos2] [] pos) (tD Ps (oRg2 Ea Eb)) :=
  pe_imp (pe_tupRg hc hg hm (prg_2 hg2 hm2 ha hb na nb hp)) fun σ H Q ⟨ρ, d, k, rel, e, q⟩ => by
    unfold oRg2 at e
    obtain ⟨x, e1, e⟩ := Option.bind_eq_some_iff.mp e
    obtain ⟨y, e2, e⟩ := Option.bind_eq_some_iff.mp e
    obtain ⟨m, e3, e⟩ := Option.bind_eq_some_iff.mp e
    obtain ⟨n, e4, e⟩ := Option.bind_eq_some_iff.mp e
    split at e
    · rename_i h
      cases e
      refine ⟨ρ, x, k, rel, e1, fun v1 H1 s1 k1 r1 => ⟨ρ, y, k1, rel.mono k s1, e2, fun v2 H2 s2 k2 r2 => ?_⟩⟩
      cases r1 <;> simp [asI] at e3
      subst e3
      cases r2 <;> simp [asI] at e4
      subst e4
      refine ⟨_, _, rfl, rfl, ?_, fun p hp => (q.later (s1.trans s2)).tup k2 (rp_rg _ _) hp⟩
      unfold RgOk
      omega
    · cases e
theorem pd_max {p : Pos} (hc : X.calm = true) (hg : Gl X "max") (hm : X.mg "max" = none) (ha : PE X a (tD Ps Ea)) (he : starEach [a] X.env = (false, eval a X.env) :: starEach [] X.env := by rfl) (hv : bootBuiltins "max" = some (.builtin "max") := by decide +kernel) : PE X (.Call (.Name "max" p) [a] [] pos) (tD Ps (o1 maxD Ea)) :=
  pe_imp (pe_callB (cr_max hc) hg hm hv (pa_cons ha pa_nil he) (he := he)) fun σ H Q ⟨ρ, d, k, rel, e, q⟩ => by
    unfold o1 at e
    obtain ⟨x, e1, e⟩ := Option.bind_eq_some_iff.mp e
    refine ⟨ρ, x, k, rel, e1, fun v1 H1 s1 k1 r1 => ?_⟩
    cases r1 with
    | lst h1 h2 =>
      unfold maxD at e
      obtain ⟨m, e2, e⟩ := Option.bind_eq_some_iff.mp e
      obtain ⟨ns, e3, e4⟩ := Option.bind_eq_some_iff.mp e2
      cases e
      have e5 := h2.int_all e3
      subst e5
      obtain ⟨s2, s3⟩ := maxL_spec e4
      refine ⟨_, ns, rfl, SqL.of h1, List.length_pos_of_mem s2, fun m' i1 i2 => ?_⟩
      have : m' = m := Int.le_antisymm (s3 _ i1) (i2 _ s2)
      rw [this]
      exact q _ _ s1 k1 (.int _)
    | _ => cases e
theorem pd_min {p : Pos} (hc : X.calm = true) (hg : Gl X "min") (hm : X.mg "min" = none) (ha : PE X a (tD Ps Ea)) (he : starEach [a] X.env = (false, eval a X.env) :: starEach [] X.env := by rfl) (hv : bootBuiltins "min" = some (.builtin "min") := by decide +kernel) : PE X (.Call (.Name "min" p) [a] [] pos) (tD Ps (o1 minD Ea)) :=
  pe_imp (pe_callB (cr_min hc) hg hm hv (pa_cons ha pa_nil he) (he := he)) fun σ H Q ⟨ρ, d, k, rel, e, q⟩ => by
    unfold o1 at e
    obtain ⟨x, e1, e⟩ := Option.bind_eq_some_iff.mp e
    refine ⟨ρ, x, k, rel, e1, fun v1 H1 s1 k1 r1 => ?_⟩
    cases r1 with
    | lst h1 h2 =>
      unfold minD at e
      obtain ⟨m, e2, e⟩ := Option.bind_eq_some_iff.mp e
      obtain ⟨ns, e3, e4⟩ := Option.bind_eq_some_iff.mp e2
      cases e
      have e5 := h2.int_all e3
      subst e5
      obtain ⟨s2, s3⟩ := minL_spec e4
      refine ⟨_, ns, rfl, SqL.of h1, List.length_pos_of_mem s2, fun m' i1 i2 => ?_⟩
      have : m' = m := Int.le_antisymm (i2 _ s2) (s3 _ i1)
      rw [this]
      exact q _ _ s1 k1 (.int _)
    | _ => cases e
theorem kind_dct {H : Hp} {xs : List DEn} {kvs : List (PyData × PyData)} (r : RpD H xs kvs) : kindD (.dict kvs) = "?" := by
  cases r with
  | nil => rfl
  | @cons x xs k v kvs h1 h2 h3 h4 =>
    cases k with
    | none => exact absurd h1.2.1 (by simp [isKd])
    | _ => rfl
theorem ty_of {H : Hp} {K : PySem.W.Frag} {x : V} {d : PyData} (r : Rp H x d) (hk : kindD d ≠ "?") : TyX K H x (.type (kindD d)) := by
  cases r with
  | non => exact .base .non
  | bl b => exact .base (.bl b)
  | int i => exact .base (.int i)
  | lst e _ => exact .base (.lst e)
  | tup e _ => exact .base (.tup e)
  | dct e r => exact absurd (kind_dct r) hk
  | opl e => exact .base (.frz e)
  | opd e => exact .fDict e
/-- isinstance(x, T), T a built-in type's name -/
theorem pd_isa {T : Str} {Tn : String} {p p2 : Pos} (hg : Gl X "isinstance") (hm : X.mg "isinstance" = none) (hgT : Gl X T) (hmT : X.mg T = none) (ha : PE X a (tD Ps Ea)) (hvT : bootBuiltins T = some (.type Tn) := by decide +kernel)
    (hv : bootBuiltins "isinstance" = some (.builtin "isinstance") := by decide +kernel) (nT : T ≠ "__name__" := by decide) (dT : (T == ("__debug__" : Str)) = false := by decide)
    (he : starEach [a, .Name T p2] X.env = (false, eval a X.env) :: starEach [.Name T p2] X.env := by rfl) :
    PE X (.Call (.Name "isinstance" p) [a, .Name T p2] [] pos) (tD Ps (oB (o1 (isaD Tn) Ea))) :=
  pe_imp (pe_callB call_isi hg hm hv (pa_cons ha (pa_cons (pe_bltn (v := .ty Tn) hgT hmT hvT rfl nT dT) pa_nil) he) (he := he)) fun σ H Q ⟨ρ, d, k, rel, e, q⟩ => by
    unfold oB o1 at e
    obtain ⟨b, e0, e⟩ := Option.bind_eq_some_iff.mp e
    obtain ⟨x, e1, e0⟩ := Option.bind_eq_some_iff.mp e0
    cases e
    refine ⟨ρ, x, k, rel, e1, fun v1 H1 s1 k1 r1 => ?_⟩
    unfold isaD at e0
    by_cases hk : kindD x = "?"
    · rw [if_pos hk] at e0
      cases e0
    rw [if_neg hk] at e0
    exact ⟨v1, .ty Tn, .type (kindD x), .type Tn, b, rfl, .ty Tn, ty_of r1 hk, kit_ty e0, q _ _ s1 k1 (.bl _)⟩
def isa2D (S T : String) (d : PyData) : Option Bool := if kindD d = "?" then none else (kitB (kindD d) S).bind fun b => if b = true then some true else kitB (kindD d) T
/-- isinstance(x, (S, T)) -/
theorem pd_isa2 {S T : Str} {Sn Tn : String} {p p2 p3 p4 : Pos} {x1 : Nat} (hg : Gl X "isinstance") (hm : X.mg "isinstance" = none) (hgS : Gl X S) (hmS : X.mg S = none) (hgT : Gl X T) (hmT : X.mg T = none) (ha : PE X a (tD Ps Ea))
    (hvS : bootBuiltins S = some (.type Sn) := by decide +kernel) (hvT : bootBuiltins T = some (.type Tn) := by decide +kernel)
    (hv : bootBuiltins "isinstance" = some (.builtin "isinstance") := by decide +kernel) (nS : S ≠ "__name__" := by decide) (dS : (S == ("__debug__" : Str)) = false := by decide) (nT : T ≠ "__name__" := by decide) (dT : (T == ("__debug__" : Str)) = false := by decide)
    (he : starEach [a, .Tuple [.Name S p2, .Name T p3] x1 p4] X.env = (false, eval a X.env) :: starEach [.Tuple [.Name S p2, .Name T p3] x1 p4] X.env := by rfl) :
    PE X (.Call (.Name "isinstance" p) [a, .Tuple [.Name S p2, .Name T p3] x1 p4] [] pos) (tD Ps (oB (o1 (isa2D Sn Tn) Ea))) :=
  pe_imp (pe_callB call_isiT hg hm hv (pa_cons ha (pa_cons (pe_tup (pa_cons (pe_bltn (v := .ty Sn) hgS hmS hvS rfl nS dS) (pa_cons (pe_bltn (v := .ty Tn) hgT hmT hvT rfl nT dT) pa_nil))) pa_nil) he) (he := he)) fun σ H Q ⟨ρ, d, k, rel, e, q⟩ => by
    unfold oB o1 at e
    obtain ⟨b, e0, e⟩ := Option.bind_eq_some_iff.mp e
    obtain ⟨x, e1, e0⟩ := Option.bind_eq_some_iff.mp e0
    cases e
    unfold isa2D at e0
    by_cases hk : kindD x = "?"
    · rw [if_pos hk] at e0
      cases e0
    rw [if_neg hk] at e0
    refine ⟨ρ, x, k, rel, e1, fun v1 H1 s1 k1 r1 => ⟨by show 2 ≤ sizeLine; decide, fun t ht => ?_⟩⟩
    have s2 : Sm Ps H1 (upd H1 t (.tup [V.ty Sn, V.ty Tn])) := .new ht
    have r2 := Rp.mono k1 s2 _ _ r1
    refine ⟨v1, t, [.ty Sn, .ty Tn], .type (kindD x), [.type Sn, .type Tn], b, rfl, upd_same, .cons (.ty Sn) (.cons (.ty Tn) .nil), ty_of r2 hk, ?_, q _ _ (s1.trans s2) (k1.new ht) (.bl _)⟩
    obtain ⟨c, e2, e0⟩ := Option.bind_eq_some_iff.mp e0
    cases c with
    | true =>
      cases e0
      exact kitAny_cons (kit_ty e2) (fun z => by cases z) fun _ => rfl
    | false =>
      rw [if_neg (by decide)] at e0
      refine kitAny_cons (kit_ty e2) (fun _ => ?_) fun z => by cases z
      refine kitAny_cons (kit_ty e0) (fun z => ?_) fun z => z
      rw [z]
      rfl
end
end LL
set_option Elab.async false
set_option linter.all false
set_option maxRecDepth 100000
set_option autoImplicit false
/-! Statements, loops, comprehensions, calls by data. -/
namespace LL
open PySem PySem.Spec PyProof.Rows L2
variable [Wd]

/-! ### statements -/
inductive Out where
  | nx (ρ : DEnv)
  | rt (d : PyData)
def KS (Ps : List Addr) (H : Hp) (D : Ends) : Out → Prop
  | .nx ρ => ∀ σ' H', Sm Ps H H' → Ok Ps H' → Rel H' σ' ρ → D.nx σ' H'
  | .rt d => Kd Ps H d D.rt
theorem KS.later {Ps : List Addr} {H H' : Hp} {D : Ends} {o : Out} (q : KS Ps H D o) (s : Sm Ps H H') : KS Ps H' D o := by
  cases o with
  | nx ρ => exact fun σ' H2 s2 k r => q σ' H2 (s.trans s2) k r
  | rt d => exact Kd.later q s
def tS (Ps : List Addr) (S : DEnv → Option Out) : TS := fun D σ H => ∃ ρ o, Ok Ps H ∧ Rel H σ ρ ∧ S ρ = some o ∧ KS Ps H D o
theorem ps_imp {X : Cx} {st : Stmt} {t t' : TS} (h : PS X st t) (w : ∀ D σ H, t' D σ H → t D σ H) : PS X st t' := ⟨fun pins s σ H D I q => h.run pins s σ H D I (w D σ H q)⟩
theorem pss_imp {X : Cx} {st : List Stmt} {t t' : TS} (h : PSs X st t) (w : ∀ D σ H, t' D σ H → t D σ H) : PSs X st t' := ⟨fun pins s σ H D I q => h.run pins s σ H D I (w D σ H q)⟩
/-! ### targets -/
def tG (Ps : List Addr) (G : PyData → DEnv → Option DEnv) : TG := fun v σ H Q => ∃ d ρ ρ', Ok Ps H ∧ Rp H v d ∧ Rel H σ ρ ∧ G d ρ = some ρ' ∧ ∀ σ' H', Sm Ps H H' → Ok Ps H' → Rel H' σ' ρ' → Q σ' H'
def tGz (Ps : List Addr) (G : List PyData → DEnv → Option DEnv) : TGs := fun vs σ H Q => ∃ ds ρ ρ', Ok Ps H ∧ RpA H vs ds ∧ Rel H σ ρ ∧ G ds ρ = some ρ' ∧ ∀ σ' H', Sm Ps H H' → Ok Ps H' → Rel H' σ' ρ' → Q σ' H'
def gN (i : Nat) : PyData → DEnv → Option DEnv := fun d ρ => some (ρ.set i (some d))
def gNilD : List PyData → DEnv → Option DEnv := fun ds ρ => match ds with
  | [] => some ρ
  | _ => none
def gConsD (G : PyData → DEnv → Option DEnv) (Gs : List PyData → DEnv → Option DEnv) : List PyData → DEnv → Option DEnv := fun ds ρ => match ds with
  | [] => none
  | d :: r => (G d ρ).bind (Gs r)
def gTupD (n : Nat) (Gs : List PyData → DEnv → Option DEnv) : PyData → DEnv → Option DEnv := fun d ρ => match d with
  | .tuple ds => if ds.length = n then Gs ds ρ else none
  | _ => none
section
variable {X : Cx} {Ps : List Addr} {pos : Pos}
theorem pg_imp {e : Expr} {t t' : TG} (h : PG X e t) (w : ∀ v σ H Q, t' v σ H Q → t v σ H Q) : PG X e t' := ⟨fun pins s σ H v u Q I r q => h.run pins s σ H v u Q I r (w v σ H Q q)⟩
theorem pgs_imp {e : List Expr} {t t' : TGs} (h : PGs X e t) (w : ∀ v σ H Q, t' v σ H Q → t v σ H Q) : PGs X e t' := ⟨fun pins s σ H v u Q I r q => h.run pins s σ H v u Q I r (w v σ H Q q)⟩
theorem pgd_name {i : Nat} {e : Expr} (h : PG X e (gName i)) : PG X e (tG Ps (gN i)) := pg_imp h fun v σ H Q ⟨d, ρ, ρ', k, r, rel, e, q⟩ => by
  cases e
  exact q _ _ .refl k (rel.set r i)
theorem pgd_nil : PGs X [] (tGz Ps gNilD) := pgs_imp pgs_nil fun v σ H Q ⟨d, ρ, ρ', k, r, rel, e, q⟩ => by
  cases r with
  | nil =>
    cases e
    exact ⟨rfl, q _ _ .refl k rel⟩
  | cons _ _ => cases e
theorem pgd_cons {e : Expr} {es : List Expr} {G : PyData → DEnv → Option DEnv} {Gs : List PyData → DEnv → Option DEnv} (h1 : PG X e (tG Ps G)) (h2 : PGs X es (tGz Ps Gs))
    (hs : (assignEach (e :: es) X.env).map (·.2) = assign e X.env :: (assignEach es X.env).map (·.2) := by rfl) : PGs X (e :: es) (tGz Ps (gConsD G Gs)) :=
  pgs_imp (pgs_cons h1 h2 hs) fun v σ H Q ⟨d, ρ, ρ', k, r, rel, e, q⟩ => by
    cases r with
    | nil => cases e
    | cons r1 r2 =>
      obtain ⟨ρ1, e1, e2⟩ := Option.bind_eq_some_iff.mp e
      refine ⟨_, _, rfl, _, ρ, ρ1, k, r1.up, rel, e1, fun σ1 H1 s1 k1 rel1 => ⟨_, ρ1, ρ', k1, RpA.mono k s1 _ _ r2, rel1, e2, fun σ2 H2 s2 k2 rel2 => q _ _ (s1.trans s2) k2 rel2⟩⟩
theorem pgd_tup {es : List Expr} {k : Nat} {Gs : List PyData → DEnv → Option DEnv} {n : Nat} (hc : X.calm = true) (h : PGs X es (tGz Ps Gs))
    (hn : (assignEach es X.env).length = n := by rfl) (hst : (assignEach es X.env).findIdx? (·.1) = none := by rfl) : PG X (.Tuple es k pos) (tG Ps (gTupD n Gs)) :=
  pg_imp (pg_tup hc h hn hst) fun v σ H Q ⟨d, ρ, ρ', k, r, rel, e, q⟩ => by
    cases r with
    | tup e1 a1 =>
      unfold gTupD at e
      simp only at e
      split at e
      · rename_i hl
        exact ⟨_, _, rfl, SqT.of e1, by rw [a1.length]; exact hl, _, ρ, ρ', k, a1, rel, e, q⟩
      · cases e
    | _ => cases e

/-! ### the statements' rules -/
def sA (E : DEnv → Option PyData) (G : PyData → DEnv → Option DEnv) : DEnv → Option Out := fun ρ => (E ρ).bind fun d => (G d ρ).bind fun ρ' => some (.nx ρ')
def sThen (S T : DEnv → Option Out) : DEnv → Option Out := fun ρ => (S ρ).bind fun o => match o with
  | .nx ρ' => T ρ'
  | .rt d => some (.rt d)
def sIf (C : DEnv → Option Bool) (S T : DEnv → Option Out) : DEnv → Option Out := fun ρ => (C ρ).bind fun c => if c = true then S ρ else T ρ
def sNx : DEnv → Option Out := fun ρ => some (.nx ρ)
def sRt (E : DEnv → Option PyData) : DEnv → Option Out := fun ρ => (E ρ).bind fun d => some (.rt d)
def sNo : DEnv → Option Out := fun _ => none
def sEx (E : DEnv → Option PyData) : DEnv → Option Out := fun ρ => (E ρ).bind fun _ => some (.nx ρ)
variable {E : DEnv → Option PyData} {Cn : DEnv → Option Bool} {S T : DEnv → Option Out} {e : Expr}
theorem psd_asg {tg : Expr} {G : PyData → DEnv → Option DEnv} (he : PE X e (tD Ps E)) (hg : PG X tg (tG Ps G)) (hs : swapsWithSole [tg] e pos.line X.env = pure false := by rfl) (hw : swappedStores [tg] e X.env = pure none := by rfl)
    (h1 : (assignEach [tg] X.env).map (·.2) = [assign tg X.env] := by rfl) : PS X (.Assign [tg] e pos) (tS Ps (sA E G)) :=
  ps_imp (ps_asg he hg hs hw h1) fun D σ H ⟨ρ, o, k, rel, e, q⟩ => by
    obtain ⟨d, e1, e⟩ := Option.bind_eq_some_iff.mp e
    obtain ⟨ρ', e2, e⟩ := Option.bind_eq_some_iff.mp e
    cases e
    exact ⟨ρ, d, k, rel, e1, fun v H1 s1 k1 r1 => ⟨d, ρ, ρ', k1, r1, rel.mono k s1, e2, fun σ2 H2 s2 k2 rel2 => q _ _ (s1.trans s2) k2 rel2⟩⟩
theorem psd_set {i : Nat} {x : Str} {pos' : Pos} (hN : X.N.Nodup) (hi : X.N[i]? = some x) (hx : Loc X.env.scope x) (he : PE X e (tD Ps E)) (hs : swapsWith e (some (.Name x pos')) pos.line X.env = pure false := by rfl)
    (hf : X.fn x = true ∨ X.env.scope.names.lookup x = some .local := by first | exact .inl rfl | exact .inr rfl | assumption) : PS X (.Assign [.Name x pos'] e pos) (tS Ps (sA E (gN i))) :=
  ps_imp (ps_set hN hi hx he hs hf) fun D σ H ⟨ρ, o, k, rel, e, q⟩ => by
    obtain ⟨d, e1, e⟩ := Option.bind_eq_some_iff.mp e
    obtain ⟨ρ', e2, e⟩ := Option.bind_eq_some_iff.mp e
    cases e
    cases e2
    exact ⟨ρ, d, k, rel, e1, fun v H1 s1 k1 r1 => q _ _ s1 k1 ((rel.mono k s1).set r1 i)⟩
theorem psd_ret (he : PE X e (tD Ps E)) : PS X (.Return (some e) pos) (tS Ps (sRt E)) := ps_imp (ps_ret he) fun D σ H ⟨ρ, o, k, rel, e, q⟩ => by
  obtain ⟨d, e1, e⟩ := Option.bind_eq_some_iff.mp e
  cases e
  exact ⟨ρ, d, k, rel, e1, q⟩
theorem psd_expr (he : PE X e (tD Ps E)) (h : PS X (.Expr e pos) (tDrop (tD Ps E))) : PS X (.Expr e pos) (tS Ps (sEx E)) := ps_imp h fun D σ H ⟨ρ, o, k, rel, e, q⟩ => by
  obtain ⟨d, e1, e⟩ := Option.bind_eq_some_iff.mp e
  cases e
  exact ⟨ρ, d, k, rel, e1, fun v H1 s1 k1 r1 => q _ _ s1 k1 (rel.mono k s1)⟩
theorem psd_ex (he : PE X e (tD Ps E)) (hs : swapsWith e none pos.line X.env = pure false := by rfl) : PS X (.Expr e pos) (tS Ps (sEx E)) := psd_expr he (ps_expr he hs)
theorem psd_if {c : Expr} {a b : List Stmt} (hc : PT X c (tT Ps Cn)) (ha : PSs X a (tS Ps S)) (hb : PSs X b (tS Ps T)) : PS X (.If c a b pos) (tS Ps (sIf Cn S T)) :=
  ps_imp (ps_if hc ha hb) fun D σ H ⟨ρ, o, k, rel, e, q⟩ => by
    obtain ⟨d, e1, e⟩ := Option.bind_eq_some_iff.mp e
    refine ⟨ρ, d, k, rel, e1, fun H1 s1 k1 => ?_⟩
    cases d with
    | true => exact iteT ⟨ρ, o, k1, rel.mono k s1, e, q.later s1⟩
    | false => exact iteF ⟨ρ, o, k1, rel.mono k s1, e, q.later s1⟩
theorem pssd_nil : PSs X [] (tS Ps sNx) := pss_imp pss_nil fun D σ H ⟨ρ, o, k, rel, e, q⟩ => by
  cases e
  exact q _ _ .refl k rel
theorem pssd_cons {st : Stmt} {rest : List Stmt} (h1 : PS X st (tS Ps S)) (h2 : PSs X rest (tS Ps T)) : PSs X (st :: rest) (tS Ps (sThen S T)) :=
  pss_imp (pss_cons h1 h2) fun D σ H ⟨ρ, o, k, rel, e, q⟩ => by
    obtain ⟨o1, e1, e⟩ := Option.bind_eq_some_iff.mp e
    refine ⟨ρ, o1, k, rel, e1, ?_⟩
    cases o1 with
    | nx ρ' => exact fun σ2 H2 s2 k2 rel2 => ⟨ρ', o, k2, rel2, e, q.later s2⟩
    | rt d =>
      cases e
      exact q
theorem pssd_one {st : Stmt} (h1 : PS X st (tS Ps S)) : PSs X [st] (tS Ps S) := pss_one h1
/-- what is never run -/
theorem pssd_no {sts : List Stmt} : PSs X sts (tS Ps sNo) := pss_imp pss_never fun D σ H ⟨ρ, o, k, rel, e, q⟩ => by cases e

/-! ### what is walked -/
def ItOk (Ps : List Addr) (J : It) (ds : List PyData) (H0 : Hp) : Prop := ∀ (i : Nat) (H : Hp), Sm Ps H0 H → Ok Ps H →
  (∀ d, ds[i]? = some d → J.go i H ∧ ∀ x H', J.yld i H x H' → Sm Ps H H' ∧ Ok Ps H' ∧ Rt H' x d) ∧ (ds.length ≤ i → J.stop i H)
def tI (Ps : List Addr) (I : DEnv → Option (List PyData)) : TI := fun σ H R => ∃ ρ ds, Ok Ps H ∧ Rel H σ ρ ∧ I ρ = some ds ∧ ∀ J H', Sm Ps H H' → Ok Ps H' → ItOk Ps J ds H' → R J H'
theorem pi_imp {tg iter : Expr} {t t' : TI} (h : PI X tg iter t) (w : ∀ σ H R, t' σ H R → t σ H R) : PI X tg iter t' := ⟨fun pins s σ H R I q => h.run pins s σ H R I (w σ H R q)⟩
def iT : PyData → Option (List PyData)
  | .tuple ds => some ds
  | _ => none
def iL : PyData → Option (List PyData)
  | .list ds => some ds
  | _ => none
theorem sqT_inj {K : PySem.W.Frag} {H : Hp} {a : Addr} {xs ys : List V} (hK : K.lookup a = none) (h : H a = some (.tup xs)) (h2 : SqT K H a ys) : ys = xs := by
  rcases h2 with (h2 | ⟨o, h2⟩) | ⟨o, its, n, e, _⟩
  · rw [h] at h2; cases h2; rfl
  · rw [h] at h2; cases h2
  · rw [hK] at e; cases e
theorem itok_tup {K : PySem.W.Frag} {a : Addr} {xs : List V} {ds : List PyData} {H : Hp} (k : Ok Ps H) (e : H a = some (.tup xs)) (r : RpA H xs ds) : ItOk Ps (Itt K a) ds H := fun i H1 s1 k1 => by
  have e1 := s1.tup k e
  refine ⟨fun d hd => ?_, fun hl => ⟨xs, SqT.of e1, by rw [r.length]; exact hl⟩⟩
  obtain ⟨v, e2, rv⟩ := r.get hd
  refine ⟨⟨xs, v, SqT.of e1, e2⟩, fun x H' ⟨eH, hx⟩ => ?_⟩
  subst eH
  have e3 := hx xs (SqT.of e1)
  rw [e2] at e3
  cases e3
  exact ⟨.refl, k1, Rp.mono k s1 _ _ rv⟩
theorem itok_lst {K : PySem.W.Frag} {a : Addr} {xs : List V} {ds : List PyData} {H : Hp} (k : Ok Ps H) (e : H a = some (.lst xs)) (r : RpA H xs ds) : ItOk Ps (Itl K a) ds H := fun i H1 s1 k1 => by
  have e1 := s1.lst k e
  refine ⟨fun d hd => ?_, fun hl => ⟨xs, SqL.of e1, by rw [r.length]; exact hl⟩⟩
  obtain ⟨v, e2, rv⟩ := r.get hd
  refine ⟨⟨xs, v, SqL.of e1, e2⟩, fun x H' ⟨eH, hx⟩ => ?_⟩
  subst eH
  have e3 := hx xs (SqL.of e1)
  rw [e2] at e3
  cases e3
  exact ⟨.refl, k1, Rp.mono k s1 _ _ rv⟩
theorem rgD_get {a b : Int} {i : Nat} {d : PyData} (h : (rgD a b)[i]? = some d) : i < (b - a).toNat ∧ d = .int (a + i) := by
  unfold rgD at h
  rw [List.getElem?_map] at h
  obtain ⟨j, h1, h2⟩ := Option.map_eq_some_iff.mp h
  obtain ⟨h3, h4⟩ := List.getElem?_eq_some_iff.mp h1
  rw [List.getElem_range] at h4
  rw [List.length_range] at h3
  subst h4
  exact ⟨h3, h2.symm⟩
theorem rgD_length (a b : Int) : (rgD a b).length = (b - a).toNat := by unfold rgD; rw [List.length_map, List.length_range]
theorem itok_rng {a b : Int} {H : Hp} : ItOk Ps (Itr a (b - a).toNat) (rgD a b) H := fun i H1 s1 k1 => by
  refine ⟨fun d hd => ?_, fun hl => by rw [rgD_length] at hl; exact hl⟩
  obtain ⟨h1, rfl⟩ := rgD_get hd
  refine ⟨h1, fun x H' ⟨eH, hx⟩ => ?_⟩
  subst eH hx
  exact ⟨.refl, k1, .int _⟩
theorem pid_tup {tg l : Expr} (h : PE X l (tD Ps E)) : PI X tg l (tI Ps (o1 iT E)) := pi_imp (pi_tup h) fun σ H R ⟨ρ, ds, k, rel, e, q⟩ => by
  obtain ⟨d, e1, e⟩ := Option.bind_eq_some_iff.mp e
  refine ⟨ρ, d, k, rel, e1, fun v H1 s1 k1 r1 => ?_⟩
  cases r1 with
  | tup h1 h2 =>
    cases e
    exact ⟨_, rfl, ⟨_, SqT.of h1⟩, q _ _ s1 k1 (itok_tup k1 h1 h2)⟩
  | _ => cases e
theorem pid_lst {tg l : Expr} (h : PE X l (tD Ps E)) : PI X tg l (tI Ps (o1 iL E)) := pi_imp (pi_list h) fun σ H R ⟨ρ, ds, k, rel, e, q⟩ => by
  obtain ⟨d, e1, e⟩ := Option.bind_eq_some_iff.mp e
  refine ⟨ρ, d, k, rel, e1, fun v H1 s1 k1 r1 => ?_⟩
  cases r1 with
  | lst h1 h2 =>
    cases e
    exact ⟨_, rfl, ⟨_, SqL.of h1⟩, q _ _ s1 k1 (itok_lst k1 h1 h2)⟩
  | _ => cases e
def iR1 : PyData → Option (List PyData)
  | .int n => if -16777216 ≤ n ∧ n ≤ 16777216 then some (rgD 0 n) else none
  | _ => none
def iR2 : PyData → PyData → Option (List PyData)
  | .int m, .int n => if -16777216 ≤ m ∧ m ≤ 16777216 ∧ -16777216 ≤ n ∧ n ≤ 16777216 then some (rgD m n) else none
  | _, _ => none
theorem pid_rg1 {tg a : Expr} {p : Pos} (hg : Gl X "range") (hm : X.mg "range" = none) (ha : PE X a (tD Ps E)) (hs : starEach [a] X.env = (false, eval a X.env) :: starEach [] X.env := by rfl) :
    PI X tg (.Call (.Name "range" p) [a] [] pos) (tI Ps (o1 iR1 E)) := pi_imp (pi_range1 hg hm (pa_cons ha pa_nil hs) hs) fun σ H R ⟨ρ, ds, k, rel, e, q⟩ => by
  obtain ⟨d, e1, e⟩ := Option.bind_eq_some_iff.mp e
  refine ⟨ρ, d, k, rel, e1, fun v H1 s1 k1 r1 => ?_⟩
  cases r1 with
  | int n =>
    obtain ⟨h, rfl⟩ := ifs e
    refine ⟨n, rfl, by omega, by omega, q _ _ s1 k1 ?_⟩
    have z := itok_rng (Ps := Ps) (a := 0) (b := n) (H := H1)
    rw [Int.sub_zero] at z
    exact z
  | _ => cases e
theorem pid_rg2 {tg a b : Expr} {E' : DEnv → Option PyData} {p : Pos} (hg : Gl X "range") (hm : X.mg "range" = none) (ha : PE X a (tD Ps E)) (hb : PE X b (tD Ps E')) (hs : starEach [a, b] X.env = (false, eval a X.env) :: starEach [b] X.env := by rfl)
    (hs2 : starEach [b] X.env = (false, eval b X.env) :: starEach [] X.env := by rfl) :
    PI X tg (.Call (.Name "range" p) [a, b] [] pos) (tI Ps (o2 iR2 E E')) := pi_imp (pi_range2 hg hm (pa_cons ha (pa_cons hb pa_nil hs2) hs) (by rw [hs, hs2]; rfl) (by rw [hs2]; rfl)) fun σ H R ⟨ρ, ds, k, rel, e, q⟩ => by
  obtain ⟨d, e1, e⟩ := Option.bind_eq_some_iff.mp e
  obtain ⟨d', e2, e⟩ := Option.bind_eq_some_iff.mp e
  refine ⟨ρ, d, k, rel, e1, fun v H1 s1 k1 r1 => ⟨ρ, d', k1, rel.mono k s1, e2, fun v2 H2 s2 k2 r2 => ?_⟩⟩
  cases r1 with
  | int m =>
    cases r2 with
    | int n =>
      obtain ⟨h, rfl⟩ := ifs e
      exact ⟨m, n, rfl, by omega, q _ _ (s1.trans s2) k2 itok_rng⟩
    | _ => cases e
  | _ => cases e

/-! ### for -/
def forD (S : PyData → DEnv → Option Out) : List PyData → DEnv → Option Out
  | [], ρ => some (.nx ρ)
  | d :: r, ρ => (S d ρ).bind fun o => match o with
    | .nx ρ' => forD S r ρ'
    | .rt x => some (.rt x)
def sFor (I : DEnv → Option (List PyData)) (G : PyData → DEnv → Option DEnv) (S : DEnv → Option Out) : DEnv → Option Out := fun ρ => (I ρ).bind fun ds => forD (fun d ρ => (G d ρ).bind S) ds ρ
theorem psd_for {tg iter : Expr} {body : List Stmt} {I : DEnv → Option (List PyData)} {G : PyData → DEnv → Option DEnv} (hp : PassesOwn (model X.prog X.w) X.A X.env X.xe) (hc : X.calm = true)
    (hi : PI X tg iter (tI Ps I)) (hg : PG X tg (tG Ps G)) (hb : PSs X body (tS Ps S)) (hs : ∀ x, foldedSetIterable iter X.env x = pure x := by intro _; rfl) : PS X (.For tg iter body [] pos) (tS Ps (sFor I G S)) :=
  ps_imp (ps_for hp hc hi hg hb hs) fun D σ H ⟨ρ, o, k, rel, e, q⟩ => by
    obtain ⟨ds, e1, e⟩ := Option.bind_eq_some_iff.mp e
    refine ⟨ρ, ds, k, rel, e1, fun J H1 s1 k1 ok => ?_⟩
    refine ⟨fun i m σ H => m = ds.length - i ∧ i ≤ ds.length ∧ Sm Ps H1 H ∧ Ok Ps H ∧ ∃ ρ, Rel H σ ρ ∧ forD (fun d ρ => (G d ρ).bind S) (ds.drop i) ρ = some o, ⟨ds.length, rfl, Nat.zero_le _, .refl, k1, ρ, rel.mono k s1, e⟩, ?_⟩
    rintro i m σ H2 ⟨rfl, hi, s2, k2, ρ2, rel2, e2⟩
    obtain ⟨go, stop⟩ := ok i H2 s2 k2
    by_cases hlt : i < ds.length
    · rw [List.drop_eq_getElem_cons hlt] at e2
      obtain ⟨o2, e3, e4⟩ := Option.bind_eq_some_iff.mp e2
      obtain ⟨ρ3, e5, e6⟩ := Option.bind_eq_some_iff.mp e3
      obtain ⟨g1, g2⟩ := go _ (List.getElem?_eq_getElem hlt)
      refine .inr ⟨g1, fun σ' H' => i + 1 ≤ ds.length ∧ Sm Ps H1 H' ∧ Ok Ps H' ∧ ∃ ρ, Rel H' σ' ρ ∧ forD (fun d ρ => (G d ρ).bind S) (ds.drop (i + 1)) ρ = some o, fun σ' H' n => ⟨ds.length - (i + 1), by omega, rfl, n.1, n.2⟩, fun x H' y => ?_⟩
      obtain ⟨s3, k3, rx⟩ := g2 x H' y
      refine ⟨_, ρ2, ρ3, k3, rx.up, rel2.mono k2 s3, e5, fun σ4 H4 s4 k4 rel4 => ⟨ρ3, o2, k4, rel4, e6, ?_⟩⟩
      have s5 := (s2.trans s3).trans s4
      cases o2 with
      | nx ρ6 => exact fun σ6 H6 s6 k6 rel6 => ⟨hlt, s5.trans s6, k6, ρ6, rel6, e4⟩
      | rt d =>
        cases e4
        exact Kd.later (H := H) q (s1.trans s5)
    · have hi' : i = ds.length := by omega
      subst hi'
      rw [List.drop_length] at e2
      cases e2
      exact .inl ⟨stop (Nat.le_refl _), q _ _ (s1.trans s2) k2 rel2⟩

/-! ### list comprehensions -/
def lcD (f : PyData → Option (Option PyData)) : List PyData → Option (List PyData)
  | [] => some []
  | d :: r => (f d).bind fun o => (lcD f r).bind fun l => match o with
    | some x => if notL x = true then some (x :: l) else none
    | none => some l
def oLc (I : DEnv → Option (List PyData)) (vs : List Nat) (G : PyData → DEnv → Option DEnv) (T : DEnv → Option Bool) (E : DEnv → Option PyData) : DEnv → Option PyData := fun ρ =>
  (I ρ).bind fun ds => (lcD (fun d => (G d (wipeD ρ vs)).bind fun ρ1 => (T ρ1).bind fun b => if b = true then (E ρ1).bind fun x => some (some x) else some none) ds).bind fun l => if l.length ≤ sizeLine then some (.list l) else none
def oYes : DEnv → Option Bool := fun _ => some true
theorem ptsd_nil : PTs X [] (tT Ps oYes) := ⟨fun pins s σ H Q I ⟨ρ, b, k, rel, e, q⟩ => by
  cases e
  exact pts_nil.run pins s σ H Q I (q H .refl k)⟩
theorem ptsd_one {c : Expr} (h : PT X c (tT Ps Cn)) : PTs X [c] (tT Ps Cn) := pts_one h
/-- the targets of a comprehension write its own slots alone: what a target by data says of the slots -/
def OwnG (g : TG) (vs : List Nat) (Ps : List Addr) (G : PyData → DEnv → Option DEnv) : Prop := ∀ v σ H (Q : L2.St → Hp → Prop) d ρ ρ', Ok Ps H → Rp H v d → Rel H σ ρ → G d ρ = some ρ' →
  (∀ σ' H', Sm Ps H H' → Ok Ps H' → Rel H' σ' ρ' → L2.wipe σ' vs = L2.wipe σ vs → Q σ' H') → g v σ H Q
theorem wipe_set {σ : L2.St} {i : Nat} {v : V} : ∀ {vs : List Nat}, i ∈ vs → L2.wipe (σ.set i (some v)) vs = L2.wipe σ vs
  | j :: vs, h => by
    unfold L2.wipe
    by_cases hj : i ∈ vs
    · rw [wipe_set hj]
    · have e : i = j := by
        rcases List.mem_cons.mp h with z | z
        · exact z
        · exact absurd z hj
      subst e
      have g : ∀ {us : List Nat} {τ : L2.St} {x : Option V}, i ∉ us → L2.wipe (τ.set i x) us = (L2.wipe τ us).set i x := by
        intro us
        induction us with
        | nil => intro τ x _; rfl
        | cons u us ih =>
          intro τ x hu
          simp only [List.mem_cons, not_or] at hu
          unfold L2.wipe
          rw [ih hu.2, List.set_comm _ _ hu.1]
      rw [g hj, List.set_set]
theorem own_name {i : Nat} {vs : List Nat} (hi : i ∈ vs) : OwnG (gName i) vs Ps (gN i) := fun v σ H Q d ρ ρ' k r rel e q => by
  cases e
  exact q _ _ .refl k (rel.set r i) (wipe_set hi)
def OwnGs (g : TGs) (vs : List Nat) (Ps : List Addr) (G : List PyData → DEnv → Option DEnv) : Prop := ∀ us σ H (Q : L2.St → Hp → Prop) ds ρ ρ', Ok Ps H → RpA H us ds → Rel H σ ρ → G ds ρ = some ρ' →
  (∀ σ' H', Sm Ps H H' → Ok Ps H' → Rel H' σ' ρ' → L2.wipe σ' vs = L2.wipe σ vs → Q σ' H') → g us σ H Q
theorem own_nil {vs : List Nat} : OwnGs gNil vs Ps gNilD := fun v σ H Q d ρ ρ' k r rel e q => by
  cases r with
  | nil =>
    cases e
    exact ⟨rfl, q _ _ .refl k rel rfl⟩
  | cons _ _ => cases e
theorem own_cons {vs : List Nat} {g : TG} {gs : TGs} {G : PyData → DEnv → Option DEnv} {Gs : List PyData → DEnv → Option DEnv} (h1 : OwnG g vs Ps G) (h2 : OwnGs gs vs Ps Gs) : OwnGs (gCons g gs) vs Ps (gConsD G Gs) := fun v σ H Q d ρ ρ' k r rel e q => by
  cases r with
  | nil => cases e
  | cons r1 r2 =>
    obtain ⟨ρ1, e1, e2⟩ := Option.bind_eq_some_iff.mp e
    exact ⟨_, _, rfl, h1 _ _ _ _ _ _ _ k r1.up rel e1 fun σ1 H1 s1 k1 rel1 w1 => h2 _ _ _ _ _ _ _ k1 (RpA.mono k s1 _ _ r2) rel1 e2 fun σ2 H2 s2 k2 rel2 w2 => q _ _ (s1.trans s2) k2 rel2 (w2.trans w1)⟩
theorem own_tup {K : PySem.W.Frag} {n : Nat} {vs : List Nat} {gs : TGs} {Gs : List PyData → DEnv → Option DEnv} (h : OwnGs gs vs Ps Gs) : OwnG (gTup K n gs) vs Ps (gTupD n Gs) := fun v σ H Q d ρ ρ' k r rel e q => by
  cases r with
  | tup e1 a1 =>
    unfold gTupD at e
    simp only at e
    split at e
    · rename_i hl
      exact ⟨_, _, rfl, SqT.of e1, by rw [a1.length]; exact hl, h _ _ _ _ _ _ _ k a1 rel e q⟩
    · cases e
  | _ => cases e
theorem wipe_wipe : ∀ (vs : List Nat) (τ : L2.St), L2.wipe (L2.wipe τ vs) vs = L2.wipe τ vs := by
  intro vs
  have g0 : ∀ (us : List Nat) (τ : L2.St) (j : Nat), L2.wipe (τ.set j none) us = (L2.wipe τ us).set j none := by
    intro us
    induction us with
    | nil => intro τ j; rfl
    | cons u us ih =>
      intro τ j
      unfold L2.wipe
      rw [ih]
      by_cases huj : u = j
      · rw [huj]
      · rw [List.set_comm _ _ (Ne.symm huj)]
  induction vs with
  | nil => intro τ; rfl
  | cons u us ih =>
    intro τ
    show (L2.wipe ((L2.wipe τ us).set u none) us).set u none = (L2.wipe τ us).set u none
    rw [g0, ih, List.set_set]
theorem lc_imp {g : TG} {G : PyData → DEnv → Option DEnv} {own : List (Str × Nat)} {I : DEnv → Option (List PyData)} (hG : OwnG g (own.map (·.2)) Ps G) (σ : L2.St) (H : Hp) (Q : VK) (h : tD Ps (oLc I (own.map (·.2)) G Cn E) σ H Q) :
    tLc (tI Ps I) g (tT Ps Cn) (tD Ps E) (own.map (·.2)) σ H Q := by
    obtain ⟨ρ, d, k, rel, e, q⟩ := h
    obtain ⟨ds, e1, e⟩ := Option.bind_eq_some_iff.mp e
    obtain ⟨l, e2, e⟩ := Option.bind_eq_some_iff.mp e
    obtain ⟨hl, rfl⟩ := LL.ifs e
    refine ⟨ρ, ds, k, rel, e1, fun J H1 s1 k1 iok D hD => ?_⟩
    generalize hf : (fun d => (G d (wipeD ρ (own.map (·.2)))).bind fun ρ1 => (Cn ρ1).bind fun b => if b = true then (E ρ1).bind fun x => some (some x) else some none) = f at e2
    refine ⟨fun i m H => m = ds.length - i ∧ i ≤ ds.length ∧ Sm Ps H1 H ∧ Ok Ps H ∧ ∃ acc la lb, H D = some (.lst acc) ∧ RpA H acc la ∧ lcD f (ds.drop i) = some lb ∧ la ++ lb = l,
      ⟨ds.length, rfl, Nat.zero_le _, .new hD, k1.new hD, [], [], l, upd_same, .nil, e2, rfl⟩, ?_⟩
    rintro i m H2 ⟨rfl, hi, s2, k2, acc, la, lb, eD, ra, e3, e4⟩
    obtain ⟨go, stop⟩ := iok i H2 s2 k2
    by_cases hlt : i < ds.length
    · rw [List.drop_eq_getElem_cons hlt] at e3
      obtain ⟨o, e5, e6⟩ := Option.bind_eq_some_iff.mp e3
      obtain ⟨lc, e7, e8⟩ := Option.bind_eq_some_iff.mp e6
      rw [← hf] at e5
      obtain ⟨ρ1, e9, e10⟩ := Option.bind_eq_some_iff.mp e5
      obtain ⟨b, e11, e12⟩ := Option.bind_eq_some_iff.mp e10
      obtain ⟨g1, g2⟩ := go _ (List.getElem?_eq_getElem hlt)
      refine .inr ⟨g1, fun H => i + 1 ≤ ds.length ∧ Sm Ps H1 H ∧ Ok Ps H ∧ ∃ acc la lb, H D = some (.lst acc) ∧ RpA H acc la ∧ lcD f (ds.drop (i + 1)) = some lb ∧ la ++ lb = l, fun H' n => ⟨ds.length - (i + 1), by omega, rfl, n.1, n.2⟩, fun x H' y => ?_⟩
      obtain ⟨s3, k3, rx⟩ := g2 x H' y
      refine hG _ _ _ _ _ _ _ k3 rx.up (((rel.mono k s1).mono k1 s2).mono k2 s3 |>.wipe _) e9 fun σ4 H4 s4 k4 rel4 w4 => ⟨?_, ρ1, b, k4, rel4, e11, fun H5 s5 k5 => ?_⟩
      · rw [w4]
        exact wipe_wipe _ _
      · have s25 := (s3.trans s4).trans s5
        have eD5 := s25.lst k2 eD
        have ra5 := RpA.mono k2 s25 _ _ ra
        cases b with
        | true =>
          rw [if_pos rfl] at e12
          obtain ⟨x', e13, e14⟩ := Option.bind_eq_some_iff.mp e12
          cases e14
          obtain ⟨nx, e15⟩ := LL.ifs e8
          refine iteT ⟨ρ1, x', k5, rel4.mono k4 s5, e13, fun v6 H6 s6 k6 r6 => ?_⟩
          have eD6 := s6.lst k5 eD5
          have ra6 := RpA.mono k5 s6 _ _ ra5
          have s16 := ((s2.trans s25).trans s6)
          have nD : D ∉ Ps := k6.ne eD6 no_lst
          have keepT : ∀ a o, Imm o → H6 a = some o → (upd H6 D (.lst (acc ++ [v6]))) a = some o := fun a o i h => by
            rw [upd_ne (ne_of h eD6 i.noL)]; exact h
          have hlen : la.length + 1 ≤ l.length := by
            rw [← e4, ← e15, List.length_append, List.length_cons]
            omega
          refine ⟨acc, eD6, by rw [ra.length]; omega, hlt, fun b o nb eb => ?_, k6.put eD6 no_lst nc_lst, acc ++ [v6], la ++ [x'], lc, upd_same, ?_, e7, by rw [← e4, ← e15, List.append_assoc]; rfl⟩
          · rw [upd_ne (ne_of_none eb hD)]
            exact s16 b o nb eb
          · exact RpA.append (RpA.keep keepT _ _ ra6) (.cons (Rt.keep keepT _ _ (r6.im nx)) .nil)
        | false =>
          rw [if_neg (by decide)] at e12
          cases e12
          cases e8
          exact iteF ⟨hlt, s2.trans s25, k5, acc, la, lb, eD5, ra5, e7, e4⟩
    · have hi' : i = ds.length := by omega
      subst hi'
      rw [List.drop_length] at e3
      cases e3
      rw [List.append_nil] at e4
      subst e4
      exact .inl ⟨stop (Nat.le_refl _), (q.later (s1.trans s2)) _ _ .refl k2 (.lst eD ra)⟩

theorem pd_lc {elt tg iter : Expr} {ifs : List Expr} {scope : Scope} {own : List (Str × Nat)} {I : DEnv → Option (List PyData)} {g : TG} {G : PyData → DEnv → Option DEnv} (hc : X.calm = true) (hN : X.N.Nodup) (hi : PI X tg iter (tI Ps I)) (ok : BlkOk X.N X.env.scope scope own)
    (hg : ∀ (s : Shared) (H : Hp) (C : Addr) (cl : List (Str × Addr)) (fp : List Addr), PG (X.blk s H scope (compEnvC scope cl C X.env) fp) tg g) (hG : OwnG g (own.map (·.2)) Ps G)
    (ht : ∀ (s : Shared) (H : Hp) (C : Addr) (cl : List (Str × Addr)) (fp : List Addr), PTs (X.blk s H scope (compEnvC scope cl C X.env) fp) ifs (tT Ps Cn))
    (he : ∀ (s : Shared) (H : Hp) (C : Addr) (cl : List (Str × Addr)) (fp : List Addr), PE (X.blk s H scope (compEnvC scope cl C X.env) fp) elt (tD Ps E)) (hs : ∀ x, foldedSetIterable iter X.env x = pure x := by intro _; rfl) :
    PE X (.ListComp elt [⟨tg, iter, ifs, 0⟩] scope pos) (tD Ps (oLc I (own.map (·.2)) G Cn E)) :=
  pe_imp (pe_lc hc hN hi ok hg ht he hs) (lc_imp hG)
/-- name = [..] on one line, the name a local -/
theorem psd_setLc {i : Nat} {y : Str} {py : Pos} {elt tg iter : Expr} {ifs : List Expr} {scope : Scope} {own : List (Str × Nat)} {spos : Pos} {I : DEnv → Option (List PyData)} {g : TG} {G : PyData → DEnv → Option DEnv} (hc : X.calm = true) (hN : X.N.Nodup) (hy : X.N[i]? = some y) (hyl : X.env.scope.names.lookup y = some .local)
    (hsw : swapsWith (.ListComp elt [⟨tg, iter, ifs, 0⟩] scope pos) (some (.Name y py)) spos.line X.env = pure true) (hi : PI X tg iter (tI Ps I)) (ok : BlkOk X.N X.env.scope scope own)
    (hg : ∀ (s : Shared) (H : Hp) (C : Addr) (cl : List (Str × Addr)) (fp : List Addr), PG (X.blk s H scope (compEnvC scope cl C X.env) fp) tg g) (hG : OwnG g (own.map (·.2)) Ps G)
    (ht : ∀ (s : Shared) (H : Hp) (C : Addr) (cl : List (Str × Addr)) (fp : List Addr), PTs (X.blk s H scope (compEnvC scope cl C X.env) fp) ifs (tT Ps Cn))
    (he : ∀ (s : Shared) (H : Hp) (C : Addr) (cl : List (Str × Addr)) (fp : List Addr), PE (X.blk s H scope (compEnvC scope cl C X.env) fp) elt (tD Ps E)) (hs : ∀ x, foldedSetIterable iter X.env x = pure x := by intro _; rfl) :
    PS X (.Assign [.Name y py] (.ListComp elt [⟨tg, iter, ifs, 0⟩] scope pos) spos) (tS Ps (sA (oLc I (own.map (·.2)) G Cn E) (gN i))) :=
  ps_imp (ps_setLc hc hN hy hyl hsw hi ok hg ht he hs) fun D σ H ⟨ρ, o, k, rel, e, q⟩ => by
    obtain ⟨d, e1, e⟩ := Option.bind_eq_some_iff.mp e
    obtain ⟨ρ', e2, e⟩ := Option.bind_eq_some_iff.mp e
    cases e
    cases e2
    exact lc_imp hG σ H (fun x H1 => gName i x σ H1 D.nx) ⟨ρ, d, k, rel, e1, fun v H1 s1 k1 r1 => q _ _ s1 k1 ((rel.mono k s1).set r1 i)⟩

/-! ### defs by data, calls -/
/-- the promise: from data to data -/
def spD (Ps : List Addr) (F : List PyData → Option PyData) : Sp := fun vs H Q _ => ∃ ds d, Ok Ps H ∧ RqA H vs ds ∧ F ds = some d ∧ Kd Ps H d Q
theorem pd_call {x : Str} {p : Pos} {es : List Expr} {Es : DEnv → Option (List PyData)} {F : List PyData → Option PyData} {k : Nat} {f : Addr} {fd : FuncData} {ps : List Str} {ds : List Value} {dvs : List V} {dd : List PyData}
    (Fn : FnOk X.prog X.w X.K X.mg X.base CX0 k f fd ps (spD Ps F)) (hr : Room k X.A) (hg : Gl X x) (hm : X.mg x = some (.ref f)) (hk : PySem.W.keepIn X.K (.ref f) = true) (hb : Binds X.K fd ps ds) (hd : Vals dvs ds) (hdd : ∀ H, RqA H dvs dd)
    (ha : PA X (e :: es) (tAs Ps Es)) (hdb : (x == ("__debug__" : Str)) = false := by decide) (he : starEach (e :: es) X.env = (false, eval e X.env) :: starEach es X.env := by rfl) (hpl : (backTo pos (starEach es X.env)).any (·.1) = false := by rfl) :
    PE X (.Call (.Name x p) (e :: es) [] pos) (tD Ps (oL (fun as => F (as ++ dd)) Es)) :=
  pe_imp (pe_call Fn hr hg hm hk hb hd (pass0) ha hdb he hpl) fun σ H Q ⟨ρ, d, k, rel, e, q⟩ => by
    obtain ⟨as, e1, e⟩ := Option.bind_eq_some_iff.mp e
    refine ⟨ρ, as, k, rel, e1, fun vs H1 s1 k1 r1 => ⟨as ++ dd, d, k1, ?_, e, q.later s1⟩⟩
    have g : ∀ {vs us : List V} {ds es : List PyData}, RqA H1 vs ds → RqA H1 us es → RqA H1 (vs ++ us) (ds ++ es) := by
      intro vs us ds es h k
      induction h with
      | nil => exact k
      | cons h1 _ ih => exact .cons h1 ih
    exact g r1 (hdd H1)
end
/-- what a body gives -/
def runD (N : Nat) (S : DEnv → Option Out) (ds : List PyData) : Option PyData := match S (ds.map some ++ List.replicate (N - ds.length) none) with
  | some (.rt d) => some d
  | some (.nx _) => some .none
  | none => none
theorem fn_data {P : Program} {w : World} {K : PySem.W.Frag} {mg : Str → Option Value} {base : Heap} {x qual : Str} {st : Stmt} {f : Addr} {fd : FuncData} {N ps : List Str} {k : Nat} {Ps : List Addr} {F : List PyData → Option PyData}
    (Fn : Fun K x qual st f fd) (Sc : FnScope N ps (defScope st)) (len : ∀ ds d, F ds = some d → ds.length = ps.length)
    (hbody : ∀ (cdv : Value) (A : Around) (outer : List Env) (s : Shared) (H : Hp) (E : XK), Room k (A.deeper (envOfC qual (defScope st) s.heap.objs.size f cdv)) →
      ∃ S, PSs (cxOf CX0 P w K mg base N qual (defScope st) f cdv A outer s H E).nox (defBody st) (tS Ps S) ∧ ∀ ds d, F ds = some d → runD N.length S ds = some d) :
    FnOk P w K mg base CX0 (k + 1) f fd ps (spD Ps F) := by
  refine Fn.ok Sc (fun vs H Q E ⟨ds, d, _, r, e, _⟩ => by rw [r.length]; exact len ds d e) fun cdv A outer s H vs Q E hr ⟨ds, d, ok, r, e, q⟩ => ?_
  obtain ⟨S, h, hS⟩ := hbody cdv A outer s H E hr
  refine ⟨_, h, ?_⟩
  have e2 := hS ds d e
  unfold runD at e2
  have e3 : L2.start N vs = vs.map some ++ List.replicate (N.length - ds.length) none := by
    unfold L2.start
    rw [r.length]
  rw [e3]
  cases h1 : S (ds.map some ++ List.replicate (N.length - ds.length) none) with
  | none => rw [h1] at e2; cases e2
  | some o =>
    rw [h1] at e2
    refine ⟨_, o, ok, Rel.start r _, h1, ?_⟩
    cases o with
    | nx ρ =>
      cases e2
      exact fun σ' H' s' k' _ => q _ _ s' k' .non
    | rt d' =>
      cases e2
      exact q
end LL
set_option Elab.async false
set_option linter.all false
set_option maxRecDepth 100000
set_option maxHeartbeats 2000000
set_option autoImplicit false
/-! all(..), any(..) of a generator expression whose element is any expression by data (it may call). -/
namespace LL
open PySem PySem.Spec PyProof.Rows L2
variable [Wd]

/-- the frame of a generator that runs: its own names, captured ones by their cells -/
abbrev gx (X : Cx) (s : Shared) (H : Hp) (cenv : Env) (fp : List Addr) (A : Around) : Cx :=
  { X with A := A, s_0 := s, H_0 := H, env := cenv, outer := X.stack, stack := cenv :: X.stack, ex := fp, fn := fun _ => false, calm := true, pn := [], xe := fun _ _ => False }
section
variable {X : Cx} {pins : List (Addr × Obj)} {σ : L2.St} {H : Hp} {s : Shared}
theorem gen_start {scope : Scope} {own : List (Str × Nat)} {fp : List Addr} {code : Value} {A : Around} {a : Addr} {go : Obj} {h' : Heap} {g' : Array GenState} {d' : Drawn} {t' : Nat} {m : Str → Option Value} (I : Inv X pins σ H s) (ok : BlkOk X.N X.env.scope scope own) (hN : X.N.Nodup)
    (hcell : ∀ y ∈ scope.names, y.2 ≠ .cell) (hfp : ∀ b ∈ fp, FpOk X pins H b ∧ b < s.heap.objs.size)
    (hh : A.handled = none) (hA : A.frames = some (genEnv scope (cloFrom X.env.cells scope.names []) s.heap.objs.size code builtinsNs X.env :: X.stack)) (kp : ∀ b o, s.heap.get? b = some o → h'.get? b = some o)
    (hn : h'.Ns s.heap.objs.size m) (ha : s.heap.objs.size < a) (hgo : h'.get? a = some go) (hgc : ∀ v, go.data ≠ .cell v) (hg : AllBare g') :
    Inv (gx X s H (genEnv scope (cloFrom X.env.cells scope.names []) s.heap.objs.size code builtinsNs X.env) fp A) [(a, go)] (wipe σ (own.map (·.2))) H { s with heap := h', gens := g', drawn := d', toks := t' } := by
  have hfree : ∀ y ∈ scope.names, y.2 = .free → ∃ c, X.env.cells.lookup y.1 = some c := fun y hy e => by
    rcases ok.free y hy e with k | k
    · exact I.ok.has _ (.inl k)
    · exact I.ok.has _ (.inr k)
  generalize hcenv : genEnv scope (cloFrom X.env.cells scope.names []) s.heap.objs.size code builtinsNs X.env = cenv at hA ⊢
  have hL : cenv.locals = s.heap.objs.size := by rw [← hcenv]; rfl
  have hcl : cenv.cells = cloFrom X.env.cells scope.names [] := by rw [← hcenv]; rfl
  have hsc : cenv.scope = scope := by rw [← hcenv]; rfl
  have cm : ∀ {y c}, (y, c) ∈ cloFrom X.env.cells scope.names [] → X.env.cells.lookup y = some c ∧ c < s.heap.objs.size := fun {y c} hm => by
    rcases cloFrom_mem hm with hm | ⟨h1, rfl⟩
    · cases hm
    · obtain ⟨c, hc⟩ := hfree _ h1 rfl
      rw [hc]
      obtain ⟨w, z⟩ := I.cell _ _ hc
      exact ⟨rfl, z.lt⟩
  have mem : ∀ {y c}, cenv.cells.lookup y = some c → X.env.cells.lookup y = some c ∧ c < s.heap.objs.size := fun {y c} e => by
    rw [hcl] at e
    exact cm (PySem.mem_of_lookup e)
  have look : ∀ {y}, scope.names.lookup y = some .free → ∃ c, cenv.cells.lookup y = some c ∧ X.env.cells.lookup y = some c := fun {y} hl => by
    have hy : (y, NameKind.free) ∈ scope.names := PySem.mem_of_lookup hl
    obtain ⟨c', e'⟩ := mem_lookup (cloFrom_has (cells := X.env.cells) (acc := []) hy)
    rw [← hcl] at e'
    exact ⟨c', e', (mem e').1⟩
  have okB : (gx X s H cenv fp A).Ok := by
    refine ⟨I.ok.mod, by show cenv.scope.kind = _; rw [hsc]; exact ok.kind, by show cenv.globals = _; rw [← hcenv]; exact I.ok.glob, by show cenv.builtins = _; rw [← hcenv]; rfl, by show s.heap.objs.size ≤ cenv.locals; rw [hL]; exact Nat.le_refl _,
      fun y z c e1 e2 => ?_, fun y hy => ?_, fun y c z e => (Bool.false_ne_true z).elim, fun _ => hh, hA, .inr ⟨rfl, ?_⟩, fun b hb => ⟨?_, fun y c e z => ?_⟩, I.bs, Nat.le_trans I.ok.bsz I.sz, fun b o e hb => ?_, fun b hb z => ?_, I.stack, I.stkFree⟩
    · exact I.ok.inj y z c (mem e1).1 (mem e2).1
    · show ∃ c, cenv.cells.lookup y = some c
      have hy : cenv.scope.names.lookup y = some .cell ∨ cenv.scope.names.lookup y = some .free := hy
      rw [hsc] at hy
      rcases hy with hy | hy
      · exact absurd rfl (hcell _ (PySem.mem_of_lookup hy))
      · obtain ⟨c, h1, _⟩ := look hy
        exact ⟨c, h1⟩
    · show cenv.frame = some cenv.locals
      rw [← hcenv]
      rfl
    · show b ≠ cenv.locals
      rw [hL]; exact Nat.ne_of_lt (hfp b hb).2
    · exact (hfp b hb).1.2.2.2.2.1 y c (mem e).1 z
    · rcases (hfp b hb).1.2.2.2.1 with z | z
      · exact I.ok.noex b o e z
      · exact absurd (Nat.lt_of_lt_of_le (Heap.lt_size e) (Nat.le_trans I.ok.bsz z)) (Nat.lt_irrefl _)
    · rcases List.mem_cons.mp (I.stkSub b z) with z | z
      · exact (hfp b hb).1.2.1 z
      · exact (hfp b hb).1.2.2.1 z
  refine ⟨okB, rfl, hg, Un.kept kp, ⟨m, ?_, fun i y av e1 e2 e3 => ?_⟩, fun y c e => ?_, ?_, fun y c e => ?_, fun p hp => ?_, I.hok.kept kp, by rw [wipe_length]; exact I.len⟩
  · show Heap.Ns _ cenv.locals _
    rw [hL]
    exact hn
  · obtain ⟨e2, hne⟩ := wipe_some e2
    have e3 : Vis cenv.scope y := e3
    rw [hsc] at e3
    have no : ∀ k, scope.names.lookup y = some k → ¬ (k = .local ∨ k = .cell) := fun k e hh => by
      rcases ok.own _ (PySem.mem_of_lookup e) hh with e' | e'
      · obtain ⟨p, hp, hpy⟩ := List.mem_map.mp e'
        have e3 := ok.ix p hp
        have : p.1 = y := hpy
        rw [this] at e3
        exact hne (List.mem_map.mpr ⟨p, hp, nodup_ix hN e3 e1⟩)
      · exact e' (List.mem_of_getElem? e1)
    have hfr : scope.names.lookup y = some .free := by
      rcases e3 with e3 | e3 | e3
      · exact absurd (.inl rfl) (no _ e3)
      · exact absurd (.inr rfl) (no _ e3)
      · exact e3
    obtain ⟨m0, hn0, hl⟩ := I.loc
    have hvis : Vis X.env.scope y := (ok.free _ (PySem.mem_of_lookup hfr) rfl).elim (fun k => .inr (.inl k)) (fun k => .inr (.inr k))
    obtain ⟨w, r, q⟩ := hl i y av e1 e2 hvis
    refine ⟨w, r, .inr ⟨.inr (show cenv.scope.names.lookup y = some .free by rw [hsc]; exact hfr), ?_⟩⟩
    obtain ⟨c, h1, h2⟩ := look hfr
    rcases q with ⟨k, _⟩ | ⟨_, c', e', z⟩
    · have k : X.env.scope.names.lookup y = some .local := k
      rcases ok.free _ (PySem.mem_of_lookup hfr) rfl with k' | k' <;> rw [show X.env.scope.names.lookup y = _ from k'] at k <;> cases k
    · rw [h2] at e'; cases e'
      exact ⟨c, h1, z.keeps kp⟩
  · obtain ⟨h1, _⟩ := mem e
    obtain ⟨w, z⟩ := I.cell y c h1
    exact ⟨w, z.keeps kp⟩
  · show H cenv.locals = none
    rw [hL]; exact I.hok.fresh (Nat.le_refl _)
  · exact I.freeC y c (mem e).1
  · have hp : p ∈ ([] : List (Addr × Obj)) ++ [(a, go)] := hp
    have e : p = (a, go) := by simpa using hp
    subst e
    refine ⟨hgo, I.hok.fresh (Nat.le_of_lt ha), ?_, fun z => ?_, hgc⟩
    · show a ≠ cenv.locals
      rw [hL]; exact Nat.ne_of_gt ha
    · have z : a ∈ frs X.stack := z
      rcases List.mem_cons.mp (I.stkSub a z) with z | z
      · exact Nat.lt_irrefl _ (Nat.lt_trans ha (by rw [z]; exact I.lt))
      · exact I.nofs (Nat.le_of_lt ha) z
/-- the state's heap as it is, other generators' states -/
theorem inv_gens {s' : Shared} (I : Inv X pins σ H s) (e : s'.heap = s.heap) (ho : s'.os = s.os) (hg : AllBare s'.gens) : Inv X pins σ H s' := by
  refine I.call' (ch := []) ho ?_ ?_ hg fun b hb => absurd hb (by simp)
  · rw [e]; exact Un.refl
  · rw [e]; exact I.hok
end
/-- all (go = true), any (go = false) -/
def quD (go : Bool) (f : PyData → Option Bool) : List PyData → Option Bool
  | [] => some go
  | d :: r => (f d).bind fun b => if b = go then quD go f r else some (!go)
def oQu (go : Bool) (I : DEnv → Option (List PyData)) (vs : List Nat) (G : PyData → DEnv → Option DEnv) (E : DEnv → Option PyData) : DEnv → Option Bool := fun ρ =>
  (I ρ).bind fun ds => quD go (fun d => (G d (wipeD ρ vs)).bind fun ρ1 => (E ρ1).bind asB) ds

/-- what a turn of the generator hands out -/
def GY {X : Cx} (C : Cx) (p : Addr × Obj) (τ : L2.St) (Ps : List Addr) (H1 : Hp) (go res : Bool) : Protocol := fun _ _ v s kap => ∃ b : Bool, v = .bool b ∧ (∃ H', Inv C [p] τ H' s ∧ Sm Ps H1 H' ∧ Ok Ps H') ∧ (b ≠ go → res = !go) ∧
  (b = go → ∀ s'' : Shared, s''.heap = s.heap → s''.os = s.os → AllBare s''.gens → kap (.send .none) s'')
def GF (C : Cx) (p : Addr × Obj) (τ : L2.St) (Ps : List Addr) (H1 : Hp) (go res : Bool) (s : Shared) : Prop := res = go ∧ ∃ H', Inv C [p] τ H' s ∧ Sm Ps H1 H' ∧ Ok Ps H'
abbrev gcx (X : Cx) (s4 : Shared) (H1 : Hp) (cenv : Env) (fp : List Addr) (AA : Around) (elt tg iter : Expr) (scope : Scope) (gpos : Pos) (it : Addr) : Cx :=
  gx X s4 H1 cenv fp (AA.over (.compLoop (.GeneratorExp elt [⟨tg, iter, [], 0⟩] scope gpos) 0 (.ref it) .none cenv) [])
section
variable {X : Cx} {Ps : List Addr}
/-- the generator's code from the turn i on -/
theorem gen_turns {elt tg iter : Expr} {scope : Scope} {gpos : Pos} {own : List (Str × Nat)} {g : TG} {G : PyData → DEnv → Option DEnv} {E : DEnv → Option PyData} {f : PyData → Option Bool} {AA : Around} {s4 : Shared} {H1 : Hp} {cenv : Env} {fp : List Addr} {it : Addr} {tn : Nat → Heap → Prop} {J : It}
    {ds : List PyData} {p : Addr × Obj} {σ : L2.St} {ρ : DEnv} {go res : Bool}
    (T : Turn X.prog X.w X.K tg J fp it tn) (iok : ItOk Ps J ds H1)
    (hco : cenv.scope.isCoroutine = false) (hh : AA.handled = none)
    (pg : PG (gcx X s4 H1 cenv fp AA elt tg iter scope gpos it) tg g) (hG : OwnG g (own.map (·.2)) Ps G)
    (pe : PE (gcx X s4 H1 cenv fp AA elt tg iter scope gpos it) elt (tD Ps E))
    (hf : f = fun d => (G d (wipeD ρ (own.map (·.2)))).bind fun ρ1 => (E ρ1).bind asB) (k1 : Ok Ps H1) (rel : Rel H1 σ ρ) (hp : ∀ b ∈ fp, p.1 ≠ b) :
    ∀ (m i n : Nat) (s₀ s : Shared) (H : Hp), ds.length - i = m → i ≤ ds.length → m < n →
      Inv (gcx X s4 H1 cenv fp AA elt tg iter scope gpos it) [p] (wipe σ (own.map (·.2))) H s → tn i s.heap → (∀ b ∈ fp, H b = none) → Sm Ps H1 H → Ok Ps H → quD go f (ds.drop i) = some res →
      Seg (model X.prog X.w) AA (fun _ _ r s₁ => r = .ok .next ∧ GF (gcx X s4 H1 cenv fp AA elt tg iter scope gpos it) p (wipe σ (own.map (·.2))) Ps H1 go res s₁)
        (GY (X := X) (gcx X s4 H1 cenv fp AA elt tg iter scope gpos it) p (wipe σ (own.map (·.2))) Ps H1 go res) n s₀
        (.compLoop (.GeneratorExp elt [⟨tg, iter, [], 0⟩] scope gpos) 0 (.ref it) .none cenv)
        ((model X.prog X.w).den (.compLoop (.GeneratorExp elt [⟨tg, iter, [], 0⟩] scope gpos) 0 (.ref it) .none cenv)) [] s := by
  intro m
  induction m with
  | zero =>
    intro i n s₀ s H hm hi hn I st nf sm ok e
    have hin : i = ds.length := by omega
    subst hin
    rw [List.drop_length] at e
    have e' : go = res := Option.some.inj e
    show Seg _ AA _ _ _ s₀ _ ((compTurn (.GeneratorExp elt [⟨tg, iter, [], 0⟩] scope gpos) 0 (.ref it) .none cenv).onRaise (leaving cenv)) [] s
    rw [compTurn_gen, Sem.onRaise_eq_wrap]
    refine seg_bind_wrap (wpAny_standAt ?_)
    have stat : ∀ b ∈ fp, FpOk (gcx X s4 H1 cenv fp AA elt tg iter scope gpos it) [p] H b := fun b hb =>
      ⟨nf b hb, (I.ok.exf b hb).1, I.ok.exfs b hb, .inl hb, fun x c e => (I.ok.exf b hb).2 x c e, fun q hq => by
        have hq : q ∈ ([] : List (Addr × Obj)) ++ [p] := hq
        have e : q = p := by simpa using hq
        rw [e]; exact hp b hb⟩
    refine seg_bind_wrap (thnF (T.done (gcx X s4 H1 cenv fp AA elt tg iter scope gpos it) rfl rfl rfl rfl _ [p] s _ H (fun _ _ => False) I stat st ((iok _ H sm ok).2 (Nat.le_refl _))) fun r s6 ⟨hr, I6⟩ => ?_)
    subst hr
    exact seg_end (.ok .next) ⟨rfl, e'.symm, H, I6, sm, ok⟩
  | succ m ih =>
    intro i n s₀ s H hm hi hn I st nf sm ok e
    have hlt : i < ds.length := by omega
    obtain ⟨n', rfl⟩ : ∃ n', n = n' + 1 := ⟨n - 1, by omega⟩
    rw [List.drop_eq_getElem_cons hlt] at e
    obtain ⟨b, e1, e2⟩ := Option.bind_eq_some_iff.mp e
    rw [hf] at e1
    obtain ⟨ρ1, e3, e4⟩ := Option.bind_eq_some_iff.mp e1
    obtain ⟨d, e5, e6⟩ := Option.bind_eq_some_iff.mp e4
    show Seg _ AA _ _ _ s₀ _ ((compTurn (.GeneratorExp elt [⟨tg, iter, [], 0⟩] scope gpos) 0 (.ref it) .none cenv).onRaise (leaving cenv)) [] s
    rw [compTurn_gen, Sem.onRaise_eq_wrap]
    refine seg_bind_wrap (wpAny_standAt ?_)
    have stat : ∀ {σ' : L2.St} {H' : Hp} {s' : Shared}, Inv (gcx X s4 H1 cenv fp AA elt tg iter scope gpos it) [p] σ' H' s' → (∀ b ∈ fp, H' b = none) →
        ∀ b ∈ fp, FpOk (gcx X s4 H1 cenv fp AA elt tg iter scope gpos it) [p] H' b := fun {σ' H' s'} I' nf' b hb =>
      ⟨nf' b hb, (I'.ok.exf b hb).1, I'.ok.exfs b hb, .inl hb, fun x c e => (I'.ok.exf b hb).2 x c e, fun q hq => by
        have hq : q ∈ ([] : List (Addr × Obj)) ++ [p] := hq
        have e : q = p := by simpa using hq
        rw [e]; exact hp b hb⟩
    obtain ⟨g1, g2⟩ := (iok i H sm ok).1 _ (List.getElem?_eq_getElem hlt)
    refine seg_bind_wrap (thnF (T.item (gcx X s4 H1 cenv fp AA elt tg iter scope gpos it) rfl rfl rfl rfl i [p] s _ H (fun _ _ => False) I (stat I nf) st g1) fun r s6 ⟨u, hr, h6⟩ => ?_)
    subst hr
    refine seg_bind_wrap (thnF h6 fun _ s7 ⟨x, H7, I7, r7, y7, st7, n7⟩ => ?_)
    obtain ⟨s37, k7, rx⟩ := g2 x H7 y7
    have I7' := I7.pinned (stat I7 n7) (T.obj _ _ st7)
    have sm7 := sm.trans s37
    have rel7 : Rel H7 (wipe σ (own.map (·.2))) (wipeD ρ (own.map (·.2))) := (rel.mono k1 sm7).wipe _
    refine seg_bind_wrap (thnF (pg.run _ s7 _ H7 x u _ I7' r7 (hG _ _ _ (fun σ' H' => Sm Ps H7 H' ∧ Ok Ps H' ∧ Rel H' σ' ρ1 ∧ L2.wipe σ' (own.map (·.2)) = L2.wipe (wipe σ (own.map (·.2))) (own.map (·.2))) _ _ _ k7 rx.up rel7 e3 fun σ' H' z1 z2 z3 z4 => ⟨z1, z2, z3, z4⟩)) fun _ s8 ⟨σ8, H8, I8, s78, k8, rel8, w8⟩ => ?_)
    refine seg_bind_wrap (wpAny_pure ?_)
    have hy : ∀ v, yieldOut cenv v = yieldValue v := fun v => by simp only [yieldOut, hco, Bool.false_eq_true, if_false]
    simp only [hy, if_true]
    rw [Sem.bind_eq_wrap', Sem.bind_eq_wrap', Sem.wrap_wrap, Sem.wrap_wrap]
    refine seg_wrap (thnF (pe.run _ s8 σ8 H8 (fun v H9 => v = .bl b ∧ Sm Ps H8 H9 ∧ Ok Ps H9) I8 ⟨ρ1, d, k8, rel8, e5, fun v H9 s9 k9 r9 => ?_⟩) fun y s9 ⟨yv, H9, I9, r9, hyv, s89, k9⟩ => ?_)
    · cases r9 <;> simp [asB] at e6
      exact ⟨by rw [e6], s9, k9⟩
    subst hyv
    obtain rfl : y = Value.bool b := r9
    have sm9 := (sm7.trans s78).trans s89
    have pin' : ∀ b ∈ fp, ∀ o, s7.heap.get? b = some o → s9.heap.get? b = some o ∧ H9 b = none := fun b hb o e =>
      let z := I9.pin (b, o) (List.mem_append_right _ (List.mem_append_right _ (mem_pinsAt hb e)))
      ⟨z.1, z.2.1⟩
    have wp : ∀ (vs : List Nat) (τ : L2.St), L2.wipe (L2.wipe τ vs) vs = L2.wipe τ vs := by
      intro vs
      have g0 : ∀ (us : List Nat) (τ : L2.St) (j : Nat), L2.wipe (τ.set j none) us = (L2.wipe τ us).set j none := by
        intro us
        induction us with
        | nil => intro τ j; rfl
        | cons u us ih =>
          intro τ j
          unfold L2.wipe
          rw [ih]
          by_cases huj : u = j
          · rw [huj]
          · rw [List.set_comm _ _ (Ne.symm huj)]
      induction vs with
      | nil => intro τ; rfl
      | cons u us ih =>
        intro τ
        show (L2.wipe ((L2.wipe τ us).set u none) us).set u none = (L2.wipe τ us).set u none
        rw [g0, ih, List.set_set]
    rw [wp] at w8
    have hl : (wipe σ (own.map (·.2))).length = σ8.length := by rw [← w8, wipe_length]
    have I10 : Inv (gcx X s4 H1 cenv fp AA elt tg iter scope gpos it) [p] (wipe σ (own.map (·.2))) H9 s9 :=
      (I9.unpinned (pins := [p])).weak hl fun j v e => by
        rw [← w8] at e
        exact (wipe_some e).1
    have n9 : ∀ b ∈ fp, H9 b = none := fun b hb => by
      obtain ⟨o, e, _⟩ := T.obj _ _ st7 b hb
      exact (pin' b hb o e).2
    have st9 : tn (i + 1) s9.heap := T.keep _ _ _ st7 fun b hb o e => (pin' b hb o e).1
    refine seg_at (seg_yield rfl rfl rfl ⟨b, rfl, ⟨H9, I10, sm9, k9⟩, fun hb => ?_, fun hb s'' q1 q2 q3 => ?_⟩)
    · rw [if_neg hb] at e2
      exact (Option.some.inj e2).symm
    · rw [if_pos hb] at e2
      refine seg_again rfl (ih (i + 1) n' s'' s'' H9 (by omega) hlt (by omega) (inv_gens I10 q1 q2 q3) ?_ n9 sm9 k9 e2)
      rw [q1]
      exact st9
end
end LL
set_option Elab.async false
set_option linter.all false
set_option maxRecDepth 100000
set_option maxHeartbeats 2000000
set_option autoImplicit false
/-! all(..), any(..) of a generator expression: the builtin's loop, the whole call. -/
namespace LL
open PySem PySem.Spec PyProof.Rows L2 GenW
variable [Wd]

abbrev GR (C : Cx) (p : Addr × Obj) (τ : L2.St) (Ps : List Addr) (H1 : Hp) (go res : Bool) : GenEnd := fun _ _ r s₁ => r = .ok .next ∧ GF C p τ Ps H1 go res s₁
section
variable {X : Cx} {Ps : List Addr} {C : Cx} {p : Addr × Obj} {τ : L2.St} {H1 : Hp} {res : Bool} {a : Addr} {g : Nat} {A : Around} {R : Result → Shared → Prop}
/-- the generator has made its turn: what is known, its state noted -/
theorem gen_next {go : Bool} {n : Nat} {s : Shared} {gs : GenState} {Q : Option Value → Shared → Prop} {E : Value → Shared → Prop} (hh : A.handled = none) (hd : A.depth < recursionLimit)
    (hg : s.heap.IsGen a g) (hl : s.heap.NoLimit) (hgs : s.gens[g]? = some gs)
    (hgo : gs.Goes (model X.prog X.w) A.in1 (GR C p τ Ps H1 go res) (GY (X := X) C p τ Ps H1 go res) n (.send .none) (s.setGen g .running))
    (hfin : ∀ s' H', Inv C [p] τ H' s' → Sm Ps H1 H' → Ok Ps H' → res = go → Q none s')
    (hturn : ∀ b s' H' gs', Inv C [p] τ H' s' → Sm Ps H1 H' → Ok Ps H' → (b ≠ go → res = !go) → s'.gens[g]? = some gs' → (b = go → ∃ m, n = m + 1 ∧ gs'.Goes (model X.prog X.w) A.in1 (GR C p τ Ps H1 go res) (GY (X := X) C p τ Ps H1 go res) m (.send .none) (s'.setGen g .running)) →
      Q (some (.bool b)) s') :
    wpAny (model X.prog X.w) A (pyNext (.ref a)) Q E s := by
  have hgl : g < s.gens.size := (Array.getElem?_eq_some_iff.mp hgs).1
  refine wpAny_gsz (n := g + 1) hgl (wpAny_pyNext_genexpQ (P := fun _ _ s₁ => GF C p τ Ps H1 go res s₁) hh hl hd hg hgs hgo (fun v s₁ gs' hb hv => ?_) fun s₁ hp h' hk => ?_)
  · intro hsz
    obtain ⟨b, rfl, ⟨H', I', sm, ok⟩, q1, q2⟩ := hv
    have hsz1 : g < s₁.gens.size := by
      have q : (s₁.setGen g gs').gens.size = s₁.gens.size := setGen_size _ _ _
      have hsz' : g + 1 ≤ (s₁.setGen g gs').gens.size := hsz
      omega
    refine hturn b _ H' gs' (inv_gens I' rfl rfl (allBare_setGen I'.bare hb)) sm ok q1 (setGen_at hsz1) fun e => ?_
    have q3 := q2 e
    cases n with
    | zero => exact (q3 s₁ rfl rfl I'.bare).elim
    | succ m => exact ⟨m, rfl, q3 _ rfl rfl (allBare_setGen (s := s₁.setGen g gs') (allBare_setGen I'.bare hb) rfl)⟩
  · intro _
    obtain ⟨hr, H', I', sm, ok⟩ := hp
    have I2 : Inv C [p] τ H' { s₁ with heap := h' } := I'.kept (t' := s₁.toks) hk
    exact hfin _ H' (inv_gens (s := { s₁ with heap := h' }) I2 rfl rfl (allBare_setGen (s := { s₁ with heap := h' }) I'.bare rfl)) sm ok hr
theorem all_run (hh : A.handled = none) (hd : A.depth < recursionLimit) (hgen : ∀ s' H', Inv C [p] τ H' s' → s'.heap.IsGen a g ∧ s'.heap.NoLimit)
    (hR : ∀ s' H', Inv C [p] τ H' s' → Sm Ps H1 H' → Ok Ps H' → R (.ok (.ret (.bool res))) s') :
    ∀ (n : Nat) (s : Shared) (gs : GenState), s.heap.IsGen a g → s.heap.NoLimit → s.gens[g]? = some gs → gs.Goes (model X.prog X.w) A.in1.in1 (GR C p τ Ps H1 true res) (GY (X := X) C p τ Ps H1 true res) n (.send .none) (s.setGen g .running) →
      codeAny (model X.prog X.w) A (.builtin "all.loop" ⟨[.ref a], []⟩) R s := by
  intro n
  induction n with
  | zero =>
    intro s gs hg hl hgs hgo
    refine codeAny_builtin F.entry_all_loop ?_
    rw [Around.under_plainId F.plain_all_loop _]
    show wpAny _ A.in1 (pyNext (.ref a) >>= _) _ _ s
    refine wpAny_bind (gen_next (A := A.in1) hh hd hg hl hgs hgo (fun s' H' I' sm ok e => ?_) fun b s' H' gs' I' sm ok q1 hgs' q2 => ?_)
    · refine wpAny_bind (wpAny_rule (wpAny_pure ?_))
      have := hR s' H' I' sm ok
      rw [e] at this
      exact this
    · refine wpAny_bind (wpAny_holding (wpAny_truthy_bool ?_))
      refine wpAny_bind (wpAny_letGo ?_)
      cases b with
      | true =>
        obtain ⟨m, h, _⟩ := q2 rfl
        cases h
      | false =>
        simp only [Bool.false_eq_true, if_false]
        refine wpAny_bind (wpAny_rule (wpAny_pure ?_))
        have := hR s' H' I' sm ok
        rw [q1 (by decide)] at this
        exact this
  | succ n ih =>
    intro s gs hg hl hgs hgo
    refine codeAny_builtin F.entry_all_loop ?_
    rw [Around.under_plainId F.plain_all_loop _]
    show wpAny _ A.in1 (pyNext (.ref a) >>= _) _ _ s
    refine wpAny_bind (gen_next (A := A.in1) hh hd hg hl hgs hgo (fun s' H' I' sm ok e => ?_) fun b s' H' gs' I' sm ok q1 hgs' q2 => ?_)
    · refine wpAny_bind (wpAny_rule (wpAny_pure ?_))
      have := hR s' H' I' sm ok
      rw [e] at this
      exact this
    · refine wpAny_bind (wpAny_holding (wpAny_truthy_bool ?_))
      refine wpAny_bind (wpAny_letGo ?_)
      cases b with
      | true =>
        obtain ⟨m, h, q3⟩ := q2 rfl
        cases h
        simp only [if_true]
        exact wpAny_pure ⟨plainId_quiet F.plain_all_loop _, ih s' gs' (hgen _ _ I').1 (hgen _ _ I').2 hgs' q3⟩
      | false =>
        simp only [Bool.false_eq_true, if_false]
        refine wpAny_bind (wpAny_rule (wpAny_pure ?_))
        have := hR s' H' I' sm ok
        rw [q1 (by decide)] at this
        exact this
theorem any_run (hh : A.handled = none) (hd : A.depth < recursionLimit) (hgen : ∀ s' H', Inv C [p] τ H' s' → s'.heap.IsGen a g ∧ s'.heap.NoLimit)
    (hR : ∀ s' H', Inv C [p] τ H' s' → Sm Ps H1 H' → Ok Ps H' → R (.ok (.ret (.bool res))) s') :
    ∀ (n : Nat) (s : Shared) (gs : GenState), s.heap.IsGen a g → s.heap.NoLimit → s.gens[g]? = some gs → gs.Goes (model X.prog X.w) A.in1.in1 (GR C p τ Ps H1 false res) (GY (X := X) C p τ Ps H1 false res) n (.send .none) (s.setGen g .running) →
      codeAny (model X.prog X.w) A (.builtin "any.loop" ⟨[.ref a], []⟩) R s := by
  intro n
  induction n with
  | zero =>
    intro s gs hg hl hgs hgo
    refine codeAny_builtin F.entry_any_loop ?_
    rw [Around.under_plainId F.plain_any_loop _]
    show wpAny _ A.in1 (pyNext (.ref a) >>= _) _ _ s
    refine wpAny_bind (gen_next (A := A.in1) hh hd hg hl hgs hgo (fun s' H' I' sm ok e => ?_) fun b s' H' gs' I' sm ok q1 hgs' q2 => ?_)
    · refine wpAny_bind (wpAny_rule (wpAny_pure ?_))
      have := hR s' H' I' sm ok
      rw [e] at this
      exact this
    · refine wpAny_bind (wpAny_holding (wpAny_truthy_bool ?_))
      refine wpAny_bind (wpAny_letGo ?_)
      cases b with
      | false =>
        obtain ⟨m, h, _⟩ := q2 rfl
        cases h
      | true =>
        simp only [if_true]
        refine wpAny_bind (wpAny_rule (wpAny_pure ?_))
        have := hR s' H' I' sm ok
        rw [q1 (by decide)] at this
        exact this
  | succ n ih =>
    intro s gs hg hl hgs hgo
    refine codeAny_builtin F.entry_any_loop ?_
    rw [Around.under_plainId F.plain_any_loop _]
    show wpAny _ A.in1 (pyNext (.ref a) >>= _) _ _ s
    refine wpAny_bind (gen_next (A := A.in1) hh hd hg hl hgs hgo (fun s' H' I' sm ok e => ?_) fun b s' H' gs' I' sm ok q1 hgs' q2 => ?_)
    · refine wpAny_bind (wpAny_rule (wpAny_pure ?_))
      have := hR s' H' I' sm ok
      rw [e] at this
      exact this
    · refine wpAny_bind (wpAny_holding (wpAny_truthy_bool ?_))
      refine wpAny_bind (wpAny_letGo ?_)
      cases b with
      | false =>
        obtain ⟨m, h, q3⟩ := q2 rfl
        cases h
        simp only [Bool.false_eq_true, if_false]
        exact wpAny_pure ⟨plainId_quiet F.plain_any_loop _, ih s' gs' (hgen _ _ I').1 (hgen _ _ I').2 hgs' q3⟩
      | true =>
        simp only [if_true]
        refine wpAny_bind (wpAny_rule (wpAny_pure ?_))
        have := hR s' H' I' sm ok
        rw [q1 (by decide)] at this
        exact this
end
/-- the generator at a, made and not yet woken -/
def Made (X : Cx) (pins : List (Addr × Obj)) (σ : L2.St) (Ps : List Addr) (go res : Bool) (Q : VK) (a : Addr) (s5 : Shared) : Prop :=
  ∃ (g : Nat) (C : Cx) (p : Addr × Obj) (τ : L2.St) (H1 : Hp) (n : Nat) (gs : GenState), s5.heap.IsGen a g ∧ s5.heap.NoLimit ∧ s5.gens[g]? = some gs ∧ (∀ s' H', Inv C [p] τ H' s' → s'.heap.IsGen a g ∧ s'.heap.NoLimit) ∧
    gs.Goes (model X.prog X.w) X.A.in1.in1 (GR C p τ Ps H1 go res) (GY (X := X) C p τ Ps H1 go res) n (.send .none) (s5.setGen g .running) ∧
    ∀ s' H', Inv C [p] τ H' s' → Sm Ps H1 H' → Ok Ps H' → EP X pins σ Q (.bool res) s'
section
variable {X : Cx} {Ps : List Addr} {c P : Addr} {elt tg iter : Expr} {scope : Scope} {gpos p pos : Pos} {own : List (Str × Nat)} {I : DEnv → Option (List PyData)} {g : TG} {G : PyData → DEnv → Option DEnv} {E : DEnv → Option PyData} {k : Nat}
/-- the generator's own scope -/
structure GSc (N : List Str) (sc scope : Scope) (own : List (Str × Nat)) : Prop where
  blk : BlkOk N sc scope own
  co : scope.isCoroutine = false
  cell : ∀ y ∈ scope.names, y.2 ≠ .cell
  dot : scope.names.lookup (".0" : Str) = some NameKind.local
theorem gen_made {go : Bool} {pins : List (Addr × Obj)} {s : Shared} {σ : L2.St} {H : Hp} {Q : VK} {Q' : Value → Shared → Prop} (hN : X.N.Nodup) (hr : Room (k + 1) X.A) (TB : LamX.TabB X.base X.mg c P) (hP : P ∈ Ps) (hPl : P ≠ Wd.lamP) (hcode : X.env.code = .ref c) (hi : PI X tg iter (tI Ps I))
    (S : GSc X.N X.env.scope scope own) (hs : ∀ v, genFold iter X.env v = pure v)
    (hg : ∀ (s : Shared) (H : Hp) (C : Addr) (cl : List (Str × Addr)) (code : Value) (fp : List Addr) (A : Around), PG (gx X s H (genEnv scope cl C code builtinsNs X.env) fp A) tg g) (hG : OwnG g (own.map (·.2)) Ps G)
    (he : ∀ (s : Shared) (H : Hp) (C : Addr) (cl : List (Str × Addr)) (code : Value) (fp : List Addr) (A : Around), Room k A → PE (gx X s H (genEnv scope cl C code builtinsNs X.env) fp A) elt (tD Ps E))
    (Iv : Inv X pins σ H s) (h : tD Ps (oB (oQu go I (own.map (·.2)) G E)) σ H Q) (hQ : ∀ a s5 res, Made X pins σ Ps go res Q a s5 → Q' (.ref a) s5) :
    wpAny (model X.prog X.w) X.A (eval (.GeneratorExp elt [⟨tg, iter, [], 0⟩] scope gpos) X.env) Q' X.xe s := by
  obtain ⟨ρ, d, k0, rel, e, q⟩ := h
  obtain ⟨res, e1, e⟩ := Option.bind_eq_some_iff.mp e
  cases e
  obtain ⟨ds, e2, e3⟩ := Option.bind_eq_some_iff.mp e1
  have hfree : ∀ y ∈ scope.names, y.2 = .free → ∃ c, X.env.cells.lookup y.1 = some c := fun y hy e => by
    rcases S.blk.free y hy e with k | k
    · exact Iv.ok.has _ (.inl k)
    · exact Iv.ok.has _ (.inr k)
  refine wpAny_GeneratorExp_make S.co (closure_ok hfree) S.cell S.dot S.blk.kind (by have := hr.dp; omega) ?_ hs
  refine thn (hi.run pins s σ H (fun J H1 => Sm Ps H H1 ∧ Ok Ps H1 ∧ ItOk Ps J ds H1) Iv ⟨ρ, ds, k0, rel, e2, fun J H1 s1 k1 iok => ⟨s1, k1, iok⟩⟩) fun xv s1 h1 => thn h1 fun itv s2 h2 => ?_
  obtain ⟨it, fp, tn, J, H2, rfl, I2, T, st2, f2, s02, k2, iok⟩ := h2
  obtain ⟨ps, hPt, ht⟩ := k2.1 P hP
  have hPs : s2.heap.get? P = some { cls := .none, data := .fields ps } := I2.hok P _ hPt
  have cd : PySem.W.CodeHd s2.heap c P := TB.code.keeps fun b u e => I2.bk b u e
  have cont : ∀ (code : Value) (h3 : Heap) (tk : Nat) (ps' : Array Value), Heap.ExtBut P s2.heap h3 → h3.get? P = some { cls := .none, data := .fields ps' } → (∃ more, ps' = ps ++ more) → TriplesOk ps'.toList →
      wpAny (model X.prog X.w) X.A (builtinsFor X.env.globals X.env.builtins) (fun bi s₄ => ∀ h', h'.Ns s₄.heap.objs.size (fun y => if y = ".0" then some (.ref it) else none) → Heap.SameBut s₄.heap.objs.size (s₄.heap.push { cls := .type "frame", data := .dict #[] }) h' →
        Q' (.ref h'.objs.size) { s₄ with
          gens := s₄.gens.push (.fresh (.compStart (.GeneratorExp elt [⟨tg, iter, [], 0⟩] scope gpos) 0 (.ref it) .none (genEnv scope (cloFrom X.env.cells scope.names []) s₄.heap.objs.size code bi X.env))),
          toks := s₄.toks + 1 + 1 + 1,
          heap := h'.push { cls := .type "generator", data := .fields #[.int s₄.gens.size 0, .str "<genexpr>" (s₄.toks + 1), .str (X.env.qual ++ "<genexpr>") (s₄.toks + 1 + 1)] } }) X.xe { s2 with heap := h3, toks := tk } := by
    intro code h3 tk ps' hx hP3 ⟨more, hmore⟩ ht3
    obtain ⟨bm, ob, b1, b2, b3, b4, b5, b6, b7, b8⟩ := TB.bm
    have keep3 : ∀ b u, b ≠ P → s2.heap.get? b = some u → h3.get? b = some u := fun b u hb e => hx b u hb e
    refine wpAny_builtinsFor (m := X.mg) (by rw [I2.ok.glob]; exact (I2.mod.glob.keeps I2.bk).extBut hx TB.gP) b1 b2 (keep3 _ _ b4 (I2.bk _ _ b5)) b6 b7 b8 ?_
    have I3 : Inv X pins σ (upd H2 P (.tbl (ps ++ more))) { s2 with heap := h3, toks := tk } :=
      GxR.inv_tab (g' := s2.gens) (d' := s2.drawn) (t' := tk) I2 hPt (fun b o hb e => hx b o hb e) (by rw [← hmore]; exact hP3) I2.bare
    generalize hs3 : ({ s2 with heap := h3, toks := tk } : Shared) = s3 at I3 ⊢
    have h3e : s3.heap = h3 := by rw [← hs3]
    have nP : ∀ b, H2 b = none → b ≠ P := fun b n z => by rw [z, hPt] at n; cases n
    have s23 : Sm Ps H2 (upd H2 P (.tbl (ps ++ more))) := fun b o nb eb => by
      have hne : b ≠ P := fun z => nb (by rw [z]; exact hP)
      rw [upd_ne hne]
      exact eb
    have k3 : Ok Ps (upd H2 P (.tbl (ps ++ more))) := k2.table hP hPl (by rw [← hmore]; exact ht3)
    have f3 : ∀ b ∈ fp, FpOk X pins (upd H2 P (.tbl (ps ++ more))) b ∧ b < s3.heap.objs.size := fun b hb => by
      obtain ⟨o, eo, _⟩ := T.obj _ _ st2 b hb
      have z := f2 b hb
      exact ⟨⟨by rw [upd_ne (nP b z.1)]; exact z.1, z.2⟩, by rw [h3e]; exact Heap.lt_size (keep3 _ _ (nP b z.1) eo)⟩
    have st3 : tn 0 s3.heap := T.keep _ _ _ st2 fun b hb o e => by rw [h3e]; exact keep3 b o (nP b (f2 b hb).1) e
    have iok3 : ItOk Ps J ds (upd H2 P (.tbl (ps ++ more))) := fun i H sm ok => iok i H (s23.trans sm) ok
    generalize hH3 : upd H2 P (.tbl (ps ++ more)) = H3 at I3 s23 k3 f3 iok3
    intro h' hn' hs'
    generalize hcenv : genEnv scope (cloFrom X.env.cells scope.names []) s3.heap.objs.size code builtinsNs X.env = cenv
    generalize hgob : ({ cls := .type "generator", data := .fields #[.int s3.gens.size 0, .str "<genexpr>" (s3.toks + 1), .str (X.env.qual ++ "<genexpr>") (s3.toks + 1 + 1)] } : Obj) = gob
    have hsz : h'.objs.size = s3.heap.objs.size + 1 := by rw [hs'.1, Heap.size_push]
    have keep' : ∀ b o, s3.heap.get? b = some o → h'.get? b = some o := fun b o e => hs'.extBut b o (Nat.ne_of_lt (Heap.lt_size e)) (Heap.get?_push_of_some _ e)
    have keep5 : ∀ b o, s3.heap.get? b = some o → (h'.push gob).get? b = some o := fun b o e => Heap.get?_push_of_some _ (keep' b o e)
    have hgo : (h'.push gob).get? h'.objs.size = some gob := Heap.get?_push_size _ (by rw [← hgob]; rfl)
    have isg : ∀ {s' : Shared}, s'.heap.get? h'.objs.size = some gob → s'.heap.IsGen h'.objs.size s3.gens.size := fun {s'} e => ⟨_, _, _, e, by rw [← hgob], by rw [← hgob], by rw [← hgob]⟩
    have hcl : cenv.locals = s3.heap.objs.size := by rw [← hcenv]; rfl
    have env_loop : ∀ AA : Around, (AA.over (.compLoop (.GeneratorExp elt [⟨tg, iter, [], 0⟩] scope gpos) 0 (.ref it) .none cenv) []).frames = pushEnvs [cenv] AA.frames := fun AA => by first | rfl | simp [Around.over, envsOf, pushEnvs, Code.envs]
    have fr : X.A.in1.in1.frames = some X.stack := I3.ok.frames
    have I5 : ∀ (g' : Array GenState) (t' : Nat), AllBare g' → Inv (gcx X s3 H3 cenv fp X.A.in1.in1 elt tg iter scope gpos it) [(h'.objs.size, gob)] (wipe σ (own.map (·.2))) H3 { s3 with heap := h'.push gob, gens := g', toks := t' } := fun g' t' hb => by
      rw [← hcenv]
      refine gen_start (d' := s3.drawn) I3 S.blk hN S.cell f3 hr.hd ?_ keep5 (hn'.push _) (by rw [hsz]; exact Nat.lt_succ_self _) hgo (fun v => by rw [← hgob]; intro z; cases z) hb
      rw [hcenv, env_loop, fr]
      rfl
    refine hQ _ _ res ⟨s3.gens.size, gcx X s3 H3 cenv fp X.A.in1.in1 elt tg iter scope gpos it, (h'.objs.size, gob), wipe σ (own.map (·.2)), H3, ds.length + 1, .fresh (.compStart (.GeneratorExp elt [⟨tg, iter, [], 0⟩] scope gpos) 0 (.ref it) .none cenv), isg hgo, I3.nolimit.keeps keep5, Array.getElem?_push_size .., fun s' H' I' => ⟨isg (I'.pin (h'.objs.size, gob) (by simp)).1, I'.nolimit⟩, ?_, fun s' H' I' sm ok => ?_⟩
    · refine ⟨rfl, ?_⟩
      have bare5 : AllBare ((s3.gens.push (.fresh (.compStart (.GeneratorExp elt [⟨tg, iter, [], 0⟩] scope gpos) 0 (.ref it) .none cenv)))) := I3.bare.push rfl
      have hsl : (own.map (·.2)) = (own.map (·.2)) := rfl
      have relA := rel.mono k0 (s02.trans s23)
      have loop := gen_turns (X := X) (Ps := Ps) (elt := elt) (tg := tg) (iter := iter) (scope := scope) (gpos := gpos) (own := own) (g := g) (G := G) (E := E) (f := fun d => (G d (wipeD ρ (own.map (·.2)))).bind fun ρ1 => (E ρ1).bind asB) (AA := X.A.in1.in1) (s4 := s3) (H1 := H3) (cenv := cenv) (fp := fp) (it := it) (tn := tn) (J := J) (ds := ds) (p := (h'.objs.size, gob)) (σ := σ) (ρ := ρ) (go := go) (res := res)
        T iok3 (by rw [← hcenv]; exact S.co) hr.hd (by rw [← hcenv]; exact hg _ _ _ _ _ _ _) hG (by
          rw [← hcenv]
          refine he _ _ _ _ _ _ _ ⟨hr.hd, ?_, ?_⟩
          · have := hr.dp
            show X.A.depth + 0 + 1 + 3 * k + 5 < _
            omega
          · have := hr.un
            show X.A.units + 1 + 1 + 0 + 3 + 16 * k + 200 < _
            omega) rfl k3 relA (fun b hb z => by
          have := (f3 b hb).2
          have z : h'.objs.size = b := z
          exact Nat.lt_irrefl _ (Nat.lt_trans (show s3.heap.objs.size < b by rw [← z, hsz]; exact Nat.lt_succ_self _) this))
        ds.length 0 (ds.length + 1)
      have bb : AllBare (({ s3 with heap := h'.push gob, gens := s3.gens.push (.fresh (.compStart (.GeneratorExp elt [⟨tg, iter, [], 0⟩] scope gpos) 0 (.ref it) .none cenv)), toks := s3.toks + 1 + 1 + 1 } : Shared).setGen s3.gens.size .running).gens := allBare_setGen bare5 rfl
      have nf : ∀ b ∈ fp, H3 b = none := fun b hb => (f3 b hb).1.1
      have st5 : tn 0 (h'.push gob) := T.keep _ _ _ st3 fun b _ o e => keep5 b o e
      generalize hs5 : (({ s3 with heap := h'.push gob, gens := s3.gens.push (.fresh (.compStart (.GeneratorExp elt [⟨tg, iter, [], 0⟩] scope gpos) 0 (.ref it) .none cenv)), toks := s3.toks + 1 + 1 + 1 } : Shared).setGen s3.gens.size .running) = s5 at bb
      have I6 : Inv (gcx X s3 H3 cenv fp X.A.in1.in1 elt tg iter scope gpos it) [(h'.objs.size, gob)] (wipe σ (own.map (·.2))) H3 s5 := inv_gens (I5 #[] 0 (.of_eq rfl)) (by rw [← hs5]; rfl) (by rw [← hs5]; rfl) bb
      have st6 : tn 0 s5.heap := by rw [← hs5]; exact st5
      have hlp := fun s0 => loop s0 s5 H3 (Nat.sub_zero _) (Nat.zero_le _) (Nat.lt_succ_self _) I6 st6 nf .refl k3 (by rw [List.drop_zero]; exact e3)
      show Seg _ X.A.in1.in1 _ _ _ _ _ ((compStart (.GeneratorExp elt [⟨tg, iter, [], 0⟩] scope gpos) 0 (.ref it) .none cenv).onRaise (leaving cenv)) [] _
      unfold compStart
      rw [Sem.onRaise_eq_wrap]
      show Seg _ X.A.in1.in1 _ _ _ _ _ ((ask >>= _).wrap _ _ _ _) [] _
      refine seg_bind_wrap (wpAny_askSetting ?_)
      split
      · exact seg_again rfl (hlp _)
      · first
          | exact seg_bind_wrap (wpAny_rule (seg_bind_wrap (wpAny_standAt (seg_bind_wrap (T.self _ 0 _ _ _ st6 (seg_again rfl (hlp _)))))))
          | (refine seg_bind_wrap (wpAny_rule ?_); show Seg _ X.A.in1.in1 _ _ _ _ _ ((standAt iter.pos >>= _).wrap _ _ _ _) [] _; exact seg_bind_wrap (wpAny_standAt (seg_bind_wrap (T.self _ 0 _ _ _ st6 (seg_again rfl (hlp _))))))
    · have I7 : Inv X pins σ H' s' := I3.call' (ch := fp) I'.os I'.base I'.hok I'.bare fun b hb => ⟨(f3 b hb).1.2.2.2.1, (f3 b hb).1.2.1, (f3 b hb).1.2.2.2.2.1, (f3 b hb).1.2.2.2.2.2⟩
      exact ⟨.bl res, H', I7, rfl, q _ _ ((s02.trans s23).trans sm) ok (.bl _)⟩
  refine ⟨I2.nolimit, ?_⟩
  cases hf : codeAmong gpos ps.toList with
  | none =>
    refine wpAny_genexprCodeX hcode (cd.code hPs ht) (cd.tab hPs) hf fun c' h' tk hx hge hlt hco' _ htab' _ => ?_
    obtain ⟨o1, vs, f1, tf, fl, tg', inF, tx, tt, op, _, _, _, _, _, _, _, _, _, htr, _⟩ := hco'
    exact cont _ h' tk _ hx htab'.2 ⟨_, rfl⟩ htr
  | some cv =>
    refine wpAny_genexprCode_hit hcode (cd.code hPs ht) hf ?_
    exact cont cv s2.heap s2.toks ps (Heap.ExtBut.refl _ _) hPs ⟨#[], by simp⟩ ht
theorem pd_all (hN : X.N.Nodup) (hr : Room (k + 1) X.A) (hgl : Gl X "all") (hm : X.mg "all" = none) (TB : LamX.TabB X.base X.mg c P) (hP : P ∈ Ps) (hPl : P ≠ Wd.lamP) (hcode : X.env.code = .ref c) (hi : PI X tg iter (tI Ps I))
    (S : GSc X.N X.env.scope scope own)
    (hg : ∀ (s : Shared) (H : Hp) (C : Addr) (cl : List (Str × Addr)) (code : Value) (fp : List Addr) (A : Around), PG (gx X s H (genEnv scope cl C code builtinsNs X.env) fp A) tg g) (hG : OwnG g (own.map (·.2)) Ps G)
    (he : ∀ (s : Shared) (H : Hp) (C : Addr) (cl : List (Str × Addr)) (code : Value) (fp : List Addr) (A : Around), Room k A → PE (gx X s H (genEnv scope cl C code builtinsNs X.env) fp A) elt (tD Ps E))
    (hs : ∀ v, genFold iter X.env v = pure v := by intro _; rfl) (hb : bootBuiltins "all" = some (.builtin "all") := by decide +kernel)
    (hst : starEach [.GeneratorExp elt [⟨tg, iter, [], 0⟩] scope gpos] X.env = (false, eval (.GeneratorExp elt [⟨tg, iter, [], 0⟩] scope gpos) X.env) :: starEach [] X.env := by rfl) :
    PE X (.Call (.Name "all" p) [.GeneratorExp elt [⟨tg, iter, [], 0⟩] scope gpos] [] pos) (tD Ps (oB (oQu true I (own.map (·.2)) G E))) := by
  refine ⟨fun pins s σ H Q Iv h => ?_⟩
  refine wpAny_Call_Name_kw (ld_blt Iv hgl hm hb ?_)
  refine PyProof.Rows.callWith_builtin1 ?_ hst (by rfl)
  rw [hst]
  show wpAny _ _ (spliced ((false, eval (.GeneratorExp elt [⟨tg, iter, [], 0⟩] scope gpos) X.env) :: backTo pos (starEach [] X.env))) _ _ s
  refine Calls.spliced_cons (gen_made (Q := Q) hN hr TB hP hPl hcode hi S hs hg hG he Iv h fun a s5 res hM => ?_)
  obtain ⟨gn, C, pp, τ, H1, n, gs, h1, h2, h3, h4, h5, h6⟩ := hM
  refine Calls.spliced_nil ?_
  refine call_function_tree F.kind_all F.plain_all F.entry_all (F.args_all1 _) ?_
  unfold Builtin.«all»
  refine wpAny_bind (m := oneArg "all" _) (wpAny_pure ?_)
  refine wpAny_bind (wpAny_pyIter_gen h1 ?_)
  exact wpAny_pure ⟨plainId_quiet F.plain_all_loop _, all_run (X := X) hr.hd (by have := hr.dp; omega) h4 (fun s' H' I' sm ok => h6 s' H' I' sm ok) n s5 gs h1 h2 h3 h5⟩
theorem pd_any (hN : X.N.Nodup) (hr : Room (k + 1) X.A) (hgl : Gl X "any") (hm : X.mg "any" = none) (TB : LamX.TabB X.base X.mg c P) (hP : P ∈ Ps) (hPl : P ≠ Wd.lamP) (hcode : X.env.code = .ref c) (hi : PI X tg iter (tI Ps I))
    (S : GSc X.N X.env.scope scope own)
    (hg : ∀ (s : Shared) (H : Hp) (C : Addr) (cl : List (Str × Addr)) (code : Value) (fp : List Addr) (A : Around), PG (gx X s H (genEnv scope cl C code builtinsNs X.env) fp A) tg g) (hG : OwnG g (own.map (·.2)) Ps G)
    (he : ∀ (s : Shared) (H : Hp) (C : Addr) (cl : List (Str × Addr)) (code : Value) (fp : List Addr) (A : Around), Room k A → PE (gx X s H (genEnv scope cl C code builtinsNs X.env) fp A) elt (tD Ps E))
    (hs : ∀ v, genFold iter X.env v = pure v := by intro _; rfl) (hb : bootBuiltins "any" = some (.builtin "any") := by decide +kernel)
    (hst : starEach [.GeneratorExp elt [⟨tg, iter, [], 0⟩] scope gpos] X.env = (false, eval (.GeneratorExp elt [⟨tg, iter, [], 0⟩] scope gpos) X.env) :: starEach [] X.env := by rfl) :
    PE X (.Call (.Name "any" p) [.GeneratorExp elt [⟨tg, iter, [], 0⟩] scope gpos] [] pos) (tD Ps (oB (oQu false I (own.map (·.2)) G E))) := by
  refine ⟨fun pins s σ H Q Iv h => ?_⟩
  refine wpAny_Call_Name_kw (ld_blt Iv hgl hm hb ?_)
  refine PyProof.Rows.callWith_builtin1 ?_ hst (by rfl)
  rw [hst]
  show wpAny _ _ (spliced ((false, eval (.GeneratorExp elt [⟨tg, iter, [], 0⟩] scope gpos) X.env) :: backTo pos (starEach [] X.env))) _ _ s
  refine Calls.spliced_cons (gen_made (Q := Q) hN hr TB hP hPl hcode hi S hs hg hG he Iv h fun a s5 res hM => ?_)
  obtain ⟨gn, C, pp, τ, H1, n, gs, h1, h2, h3, h4, h5, h6⟩ := hM
  refine Calls.spliced_nil ?_
  refine call_function_tree F.kind_any F.plain_any F.entry_any (F.args_any1 _) ?_
  unfold Builtin.«any»
  refine wpAny_bind (m := oneArg "any" _) (wpAny_pure ?_)
  refine wpAny_bind (wpAny_pyIter_gen h1 ?_)
  exact wpAny_pure ⟨plainId_quiet F.plain_any_loop _, any_run (X := X) hr.hd (by have := hr.dp; omega) h4 (fun s' H' I' sm ok => h6 s' H' I' sm ok) n s5 gs h1 h2 h3 h5⟩
end
end LL
set_option Elab.async false
set_option linter.all false
set_option maxRecDepth 100000
set_option maxHeartbeats 1000000
set_option autoImplicit false
/-! enumerate and zip over tuples. -/
namespace PySem
open Sem (wp)
theorem ll_enum_new (l : Addr) (items : Array Value) :
    Meets (Builtin.«enumerate.__new__» ⟨[.type "enumerate", .ref l], []⟩) (fun _ R s => s.heap.IsTuple l items ∧
      R (.ok (.ret (.ref (s.heap.push { cls := .type "tuple_iterator", data := .fields #[.ref l, .int 0 0] }).objs.size)))
        { s with heap := (s.heap.push { cls := .type "tuple_iterator", data := .fields #[.ref l, .int 0 0] }).push { cls := .type "enumerate", data := .fields #[.none, .bool false, .ref s.heap.objs.size, rawInt 0, .none, .none] } }) :=
  .of_wp fun prog w A R s h => by
    obtain ⟨hp, g, d, tk, os⟩ := s; obtain ⟨hL, h⟩ := h
    have hsub := sub_enumerate
    have q1 : ∀ {A' : Around} {E : Value → Shared → Prop} {Q : Value → Shared → Prop}, Q (.ref hp.objs.size) ⟨hp.push { cls := .type "tuple_iterator", data := .fields #[.ref l, .int 0 0] }, g, d, tk, os⟩ → wpAny (model prog w) A' (pyIter (.ref l)) Q E ⟨hp, g, d, tk, os⟩ :=
      fun q => wpAny_pyIter_tuple (s := ⟨hp, g, d, tk, os⟩) hL q
    wp_walk using q1
    refine wpAny_stack_any fun st => wpAny_pure ?_
    split
    · rename_i c _ _ _ _ _
      cases (c == Value.type "enumerate")
      · wp_walk using q1
        exact ⟨_, rfl, h⟩
      · wp_walk using q1
        exact ⟨_, rfl, h⟩
    · wp_walk using q1
      exact ⟨_, rfl, h⟩
end PySem
namespace LL
open PySem PySem.Spec PyProof.Rows L2
variable [Wd]
section
variable {prog : Program} {w : World} {A : Around} {E : Value → Shared → Prop} {s : Shared}
theorem call_enumT {l : Addr} {items : Array Value} {Q : Value → Shared → Prop} (hL : s.heap.IsTuple l items)
    (h : ∀ h', IsEnum h' (s.heap.objs.size + 1) s.heap.objs.size 0 .none → h'.IsTupleIter s.heap.objs.size l 0 → h'.objs.size = s.heap.objs.size + 2 →
      (∀ b o, s.heap.get? b = some o → h'.get? b = some o) → Q (.ref (s.heap.objs.size + 1)) { s with heap := h' }) :
    wpAny (model prog w) A (call (.type "enumerate") [.ref l]) Q E s := by
  refine callType_new F.called_enumerate (by decide) (F.typeCall_enumerate_1 _) (F.newCall_enumerate_1 _) (fun obj => F.args_object_init_2 obj _) F.entry_enumerate_new
    (ll_enum_new l items) ⟨hL, ?_⟩
  have hz : (s.heap.push { cls := .type "tuple_iterator", data := .fields #[.ref l, .int 0 0] }).objs.size = s.heap.objs.size + 1 := Heap.size_push ..
  show _ ∧ _
  rw [hz]
  have he : IsEnum ((s.heap.push { cls := .type "tuple_iterator", data := .fields #[.ref l, .int 0 0] }).push
      { cls := .type "enumerate", data := .fields #[.none, .bool false, .ref s.heap.objs.size, rawInt 0, .none, .none] }) (s.heap.objs.size + 1) s.heap.objs.size 0 .none := by
    have := Heap.get?_push_size (s.heap.push { cls := .type "tuple_iterator", data := .fields #[.ref l, .int 0 0] })
      (o := { cls := .type "enumerate", data := .fields #[.none, .bool false, .ref s.heap.objs.size, rawInt 0, .none, .none] }) rfl
    rw [hz] at this; exact this
  refine ⟨⟨_, he, rfl⟩, h _ he ⟨_, Heap.get?_push_of_some _ (Heap.get?_push_size _ rfl), rfl, rfl⟩ (by rw [Heap.size_push, hz]) fun b o x => Heap.get?_push_of_some _ (Heap.get?_push_of_some _ x)⟩
end
/-- the tuple at a, each item in a new pair with its place -/
def IteT (K : PySem.W.Frag) (a : Addr) : It :=
  ⟨fun i H => ∃ (xs : List V) (x : V), SqT K H a xs ∧ xs[i]? = some x, fun i H v H' => ∃ T x, v = .ref T ∧ H T = none ∧ H' = upd H T (.tup [.int (i : Nat), x]) ∧ ∀ xs, SqT K H a xs → xs[i]? = some x, fun i H => ∃ xs : List V, SqT K H a xs ∧ xs.length ≤ i⟩
theorem turn_enumT {P : Program} {w : World} {K : PySem.W.Frag} {elts : List Expr} {kk : Nat} {tpos : Pos} (a e it : Addr) (hae : a ≠ e) (hai : a ≠ it) :
    Turn P w K (.Tuple elts kk tpos) (IteT K a) [e, it] e (fun i h => (∃ old, IsEnum h e it ((i : Nat) : Int) old) ∧ h.IsTupleIter it a i ∧ e ≠ it) where
  mem := by simp
  obj := fun i h st b hb => by
    obtain ⟨⟨old, he⟩, ⟨o, ho, hc, hd⟩, _⟩ := st
    have e' : b = e ∨ b = it := by simpa using hb
    rcases e' with z | z
    · rw [z]; exact ⟨_, he, fun v q => nomatch q⟩
    · rw [z]; exact ⟨o, ho, fun v q => by rw [hd] at q; cases q⟩
  keep := fun i h h' st k => let ⟨⟨old, he⟩, hi, hne⟩ := st; ⟨⟨old, k e (by simp) _ he⟩, hi.at fun o q => k it (by simp) o q, hne⟩
  item := by
    intro X hP hw hK hc i pins s σ H E I hf st hg
    subst hP hw hK
    obtain ⟨⟨old, he⟩, hit, hne⟩ := st
    obtain ⟨xs, x, hq, hx⟩ := hg
    obtain ⟨its, rv, p, hz⟩ := I.tuple hq
    obtain ⟨u, hu, ru⟩ := rv.get hx
    have hlt : i < its.toArray.size := by
      have := (List.getElem?_eq_some_iff.mp hu).1
      simpa using this
    have hel : e < s.heap.objs.size := Heap.lt_size he
    have hil : it < s.heap.objs.size := by obtain ⟨_, q, _⟩ := hit; exact Heap.lt_size q
    refine wpAny_pyNext_enum_itemD (Draws.tuple (prog := X.prog) (w := X.w) (A := X.A.in1) (I.ok.hd hc) it a hai its.toArray) he ⟨hit, show s.heap.IsTuple a its.toArray from p⟩ hlt hne (by simp [hne, Ne.symm hae]) fun y h' tk hy ho hs' hT hsz hk => ?_
    have ey : y = u := by
      have z : its.toArray[i]? = some y := hy
      rw [show its.toArray[i]? = its[i]? by simp, hu] at z
      exact (Option.some.inj z).symm
    subst ey
    refine ⟨_, rfl, wpAny_letOwnedTupleGo_enum (s := { s with heap := h', toks := tk + 1 }) ho fun h'' he' sb => ?_⟩
    have hT2 : h''.get? s.heap.objs.size = some { cls := .type "tuple", data := .seq #[.int i tk, y] } := (sb.2 _ (Nat.ne_of_gt hel)).trans hT
    have new : ObjOk X.prog X.w (upd H s.heap.objs.size (.tup [.int (i : Nat), x])) h'' s.heap.objs.size (.tup [.int (i : Nat), x]) :=
      ⟨by show 2 ≤ sizeLine; decide, [.int i tk, y], .cons ⟨_, rfl⟩ (.cons ru .nil), ⟨_, hT2, rfl, _, rfl⟩⟩
    have I1 : Inv X pins σ (upd H s.heap.objs.size (.tup [.int (i : Nat), x])) { s with heap := h'', toks := tk + 1 } :=
      I.turnedNew (ch := [e, it]) (fun b ob hb q => (sb.2 b (fun z => hb (by simp [z]))).trans (hk b ob (fun z => hb (by simp [z])) (fun z => hb (by simp [z])) q)) hf (Nat.le_refl _) new
    refine ⟨.ref s.heap.objs.size, _, I1, rfl, ⟨_, x, rfl, I.hok.fresh (Nat.le_refl _), rfl, fun ys hy => by rw [I.tuple_inj hy hq]; exact hx⟩, ⟨⟨y, ?_⟩, hs'.1.at fun o q => (sb.2 it (Ne.symm hne)).trans q, hne⟩, fun b hb => ?_⟩
    · have e1 : ((i + 1 : Nat) : Int) = (i : Int) + 1 := by omega
      rw [e1]; exact he'
    · have hb' : b < s.heap.objs.size := by
        have e' : b = e ∨ b = it := by simpa using hb
        rcases e' with z | z
        · rw [z]; exact hel
        · rw [z]; exact hil
      rw [upd_ne (Nat.ne_of_lt hb')]
      exact (hf b hb).1
  done := by
    intro X hP hw hK hc i pins s σ H E I hf st hg
    subst hP hw hK
    obtain ⟨⟨old, he⟩, hit, hne⟩ := st
    obtain ⟨xs, hq, hx⟩ := hg
    obtain ⟨its, rv, p, hz⟩ := I.tuple hq
    obtain ⟨f0, f1, f2, f3, f4, f5⟩ := hf it (by simp)
    have hl := rv.length
    have D := Draws.tuple (prog := X.prog) (w := X.w) (A := X.A.in1) (I.ok.hd hc) it a hai its.toArray
    have hT : s.TypeIs (.ref e) "enumerate" := ⟨_, he, rfl⟩
    unfold pyNext
    refine wpAny_bind (wpAny_attempt (wpAny_callSpecial?_slot (name := Str.ofString "__next__") hT F.slot_enumerate_next
      (wpAny_call_entry F.slot_enumerate_next hT F.entry_enumerate_next ?_ (F.args_enumerate_next_1 _))))
    show wpAny _ _ (field (.ref e) 2 >>= _) _ _ _
    refine wpAny_bind (wpAny_field he rfl (x := .ref it) rfl ?_)
    have fin : ∀ h', Heap.ExtBut it s.heap h' → Inv X pins σ H { s with heap := h' } := fun h' eb => I.turned (t' := s.toks) (fun b o hb q => eb b o hb q) f0 f1 f3 f4 f5
    refine wpAny_bind (wpAny_nextOf_tuple_end (I.ok.hd hc) hit (show s.heap.IsTuple a its.toArray from p) (by simp; omega) fun h' x he' hx' => ?_)
    obtain ⟨o, ho, hc⟩ := hx'
    refine wpAny_bind (wpAny_isInstance (T := "StopIteration") (b := true) ⟨o, ho, hc⟩ isSubtype_stop ?_)
    exact wpAny_pure ⟨rfl, fin _ he'⟩
  self := fun A i s Q E st h => let ⟨⟨_, he⟩, _⟩ := st; wpAny_pyIter_enum he h
def iEnumT (K : PySem.W.Frag) (ta : TA) : TI := fun σ H R => ta σ H fun vs H1 => ∃ a xs, vs = [.ref a] ∧ SqT K H1 a xs ∧ R (IteT K a) H1
theorem pi_enumT {X : Cx} {e : Expr} {ta : TA} {p pos tpos : Pos} {elts : List Expr} {kk : Nat} (hg : Gl X "enumerate") (hm : X.mg "enumerate" = none) (ha : PA X [e] ta) (hs : starEach [e] X.env = [(false, eval e X.env)] := by rfl) :
    PI X (.Tuple elts kk tpos) (.Call (.Name "enumerate" p) [e] [] pos) (iEnumT X.K ta) := by
  refine ⟨fun pins s σ H R I h => ?_⟩
  refine Call_ (ld_blt I hg hm boot_enumerate (PyProof.Rows.callWith_type1 (thn (ha.run pos pins s σ H _ I h) fun us s1 ⟨vs, H1, I1, r1, q1⟩ => ?_) hs rfl))
  obtain ⟨a, xs, ex, hq, q⟩ := q1
  subst ex
  cases r1 with
  | cons r rr =>
    cases rr
    cases r
    obtain ⟨its, rv, p', hz⟩ := I1.tuple hq
    have al : a < s1.heap.objs.size := p'.lt
    refine call_enumT (show s1.heap.IsTuple a its.toArray from p') fun h' he hit hsz hk => wpAny_pyIter_enum he ?_
    have I2 : Inv X pins σ H1 { s1 with heap := h' } := I1.kept (t' := s1.toks) hk
    refine ⟨s1.heap.objs.size + 1, [s1.heap.objs.size + 1, s1.heap.objs.size], _, _, H1, rfl, I2, turn_enumT a (s1.heap.objs.size + 1) s1.heap.objs.size (Nat.ne_of_lt (Nat.lt_succ_of_lt al)) (Nat.ne_of_lt al), ⟨⟨.none, he⟩, hit, Nat.succ_ne_self _⟩, fun b hb => ?_, q⟩
    have e' : b = s1.heap.objs.size + 1 ∨ b = s1.heap.objs.size := by simpa using hb
    have hle : s1.heap.objs.size ≤ b := by
      rcases e' with z | z
      · rw [z]; exact Nat.le_add_right _ _
      · rw [z]; exact Nat.le_refl _
    exact I1.fpOk hle (I1.hok.fresh hle)
/-! by data -/
def enumD : Nat → List PyData → List PyData
  | _, [] => []
  | i, d :: r => .tuple [.int (i : Nat), d] :: enumD (i + 1) r
theorem enumD_length : ∀ (ds : List PyData) (k : Nat), (enumD k ds).length = ds.length
  | [], _ => rfl
  | _ :: r, k => by unfold enumD; rw [List.length_cons, List.length_cons, enumD_length r]
theorem enumD_get : ∀ {ds : List PyData} {k i : Nat} {x : PyData}, (enumD k ds)[i]? = some x → ∃ d, ds[i]? = some d ∧ x = .tuple [.int ((k + i : Nat) : Int), d]
  | [], _, _, _, h => by simp [enumD] at h
  | d :: r, k, 0, x, h => by
    simp [enumD] at h
    exact ⟨d, rfl, h.symm⟩
  | d :: r, k, i + 1, x, h => by
    have h' : (enumD (k + 1) r)[i]? = some x := by simpa [enumD] using h
    obtain ⟨d', h1, h2⟩ := enumD_get h'
    refine ⟨d', by simpa using h1, ?_⟩
    rw [h2]
    have : k + 1 + i = k + (i + 1) := by omega
    rw [this]
def iEn : PyData → Option (List PyData)
  | .tuple ds => some (enumD 0 ds)
  | _ => none
def iZp : PyData → PyData → Option (List PyData)
  | .tuple a, .tuple b => some (List.zipWith (fun x y => .tuple [x, y]) a b)
  | _, _ => none
section
variable {X : Cx} {Ps : List Addr} {pos : Pos} {E E' : DEnv → Option PyData}
theorem itok_enum {K : PySem.W.Frag} {a : Addr} {xs : List V} {ds : List PyData} {H : Hp} (k : Ok Ps H) (e : H a = some (.tup xs)) (r : RpA H xs ds) : ItOk Ps (IteT K a) (enumD 0 ds) H := fun i H1 s1 k1 => by
  have e1 := s1.tup k e
  refine ⟨fun d hd => ?_, fun hl => ⟨xs, SqT.of e1, by rw [r.length]; rw [enumD_length] at hl; exact hl⟩⟩
  obtain ⟨d', h1, rfl⟩ := enumD_get hd
  obtain ⟨v, e2, rv⟩ := r.get h1
  refine ⟨⟨xs, v, SqT.of e1, e2⟩, fun x H' ⟨T, y, ex, hT, eH, hx⟩ => ?_⟩
  subst ex eH
  have e3 := hx xs (SqT.of e1)
  rw [e2] at e3
  cases e3
  refine ⟨.new hT, k1.new hT, .tup upd_same (.cons ?_ (.cons (Rp.mono k1 (.new hT) _ _ (Rp.mono k s1 _ _ rv)) .nil))⟩
  rw [Nat.zero_add]
  exact .int _
theorem pid_enum {e : Expr} {p tpos : Pos} {elts : List Expr} {kk : Nat} (hg : Gl X "enumerate") (hm : X.mg "enumerate" = none) (ha : PE X e (tD Ps E)) (hs : starEach [e] X.env = (false, eval e X.env) :: starEach [] X.env := by rfl) :
    PI X (.Tuple elts kk tpos) (.Call (.Name "enumerate" p) [e] [] pos) (tI Ps (o1 iEn E)) := pi_imp (pi_enumT hg hm (pa_cons ha pa_nil hs) (by rw [hs]; rfl)) fun σ H R ⟨ρ, ds, k, rel, e, q⟩ => by
  obtain ⟨d, e1, e⟩ := Option.bind_eq_some_iff.mp e
  refine ⟨ρ, d, k, rel, e1, fun v H1 s1 k1 r1 => ?_⟩
  cases r1 with
  | tup h1 h2 =>
    cases e
    exact ⟨_, _, rfl, SqT.of h1, q _ _ s1 k1 (itok_enum k1 h1 h2)⟩
  | _ => cases e
theorem itok_zip {K : PySem.W.Frag} {a b : Addr} {xs ys : List V} {ds es : List PyData} {H : Hp} (k : Ok Ps H) (e : H a = some (.tup xs)) (r : RpA H xs ds) (e' : H b = some (.tup ys)) (r' : RpA H ys es) :
    ItOk Ps (RZ.ItzT K a b) (List.zipWith (fun x y => .tuple [x, y]) ds es) H := fun i H1 s1 k1 => by
  have e1 := s1.tup k e
  have e1' := s1.tup k e'
  refine ⟨fun d hd => ?_, fun hl => ⟨xs, ys, SqT.of e1, SqT.of e1', ?_⟩⟩
  · rw [List.getElem?_zipWith] at hd
    cases h1 : ds[i]? with
    | none => rw [h1] at hd; simp at hd
    | some x =>
      cases h2 : es[i]? with
      | none => rw [h1, h2] at hd; simp at hd
      | some y =>
        rw [h1, h2] at hd
        cases hd
        obtain ⟨v, e2, rv⟩ := r.get h1
        obtain ⟨v', e2', rv'⟩ := r'.get h2
        refine ⟨⟨xs, ys, v, v', SqT.of e1, SqT.of e1', e2, e2'⟩, fun z H' ⟨T, u, u', ex, hT, eH, hx, hy⟩ => ?_⟩
        subst ex eH
        have e3 := hx xs (SqT.of e1)
        rw [e2] at e3
        cases e3
        have e3' := hy ys (SqT.of e1')
        rw [e2'] at e3'
        cases e3'
        exact ⟨.new hT, k1.new hT, .tup upd_same (.cons (Rp.mono k1 (.new hT) _ _ (Rp.mono k s1 _ _ rv)) (.cons (Rp.mono k1 (.new hT) _ _ (Rp.mono k s1 _ _ rv')) .nil))⟩
  · rw [List.length_zipWith] at hl
    rw [r.length, r'.length]
    omega
theorem pid_zip {e e2 : Expr} {p tpos : Pos} {elts : List Expr} {kk : Nat} (hg : Gl X "zip") (hm : X.mg "zip" = none) (ha : PE X e (tD Ps E)) (hb : PE X e2 (tD Ps E'))
    (hs : starEach [e, e2] X.env = (false, eval e X.env) :: starEach [e2] X.env := by rfl) (hs2 : starEach [e2] X.env = (false, eval e2 X.env) :: starEach [] X.env := by rfl) (hpl : (backTo pos (starEach [e2] X.env)).any (·.1) = false := by rfl) :
    PI X (.Tuple elts kk tpos) (.Call (.Name "zip" p) [e, e2] [] pos) (tI Ps (o2 iZp E E')) := pi_imp (RZ.pi_zipA hg hm (pa_cons ha (pa_cons hb pa_nil hs2) hs) hs hpl) fun σ H R ⟨ρ, ds, k, rel, e, q⟩ => by
  obtain ⟨d, e1, e⟩ := Option.bind_eq_some_iff.mp e
  obtain ⟨d', e2, e⟩ := Option.bind_eq_some_iff.mp e
  refine ⟨ρ, d, k, rel, e1, fun v H1 s1 k1 r1 => ⟨ρ, d', k1, rel.mono k s1, e2, fun v2 H2 s2 k2 r2 => ?_⟩⟩
  have r1' := Rp.mono k1 s2 _ _ r1
  cases r1' with
  | tup h1 h2 =>
    cases r2 with
    | tup h3 h4 =>
      cases e
      exact ⟨_, _, _, _, rfl, .inr ⟨SqT.of h1, SqT.of h3, q _ _ (s1.trans s2) k2 (itok_zip k2 h1 h2 h3 h4)⟩⟩
    | _ => cases e
  | _ => cases e
end
end LL
set_option Elab.async false
set_option linter.all false
set_option maxRecDepth 100000
set_option maxHeartbeats 2000000
set_option autoImplicit false
/-! Dicts whose keys are whole numbers and nested tuples of them: looked up, stored into, at the library's level. -/
namespace LL
open PySem PySem.Spec PyProof.Rows L2
open Sem (wp)

/-- the value v is the key k: a whole number, or a tuple of such -/
def MIs (h : Heap) (k : NestedKey) (v : Value) : Prop := NestedIs h k v ∧ k.depth ≤ 8 ∧ ((∃ i t, v = .int i t) ∨ ∃ a, v = .ref a)
/-- the entries' keys -/
def KeysM (w : World) (h : Heap) (ks : List NestedKey) (es : Array DictEntry) : Prop := Paired (fun k (e : DictEntry) => e.hash = k.hash w ∧ MIs h k e.key) ks es.toList
theorem KeysM.size {w : World} {h : Heap} {ks : List NestedKey} {es : Array DictEntry} (p : KeysM w h ks es) : es.size = ks.length := by
  have := Paired.length p
  simpa using this.symm
theorem paired_at {α β : Type} {F : α → β → Prop} : ∀ {xs : List α} {ys : List β} {i : Nat} {y : β}, Paired F xs ys → ys[i]? = some y → ∃ x, xs[i]? = some x ∧ F x y
  | _, _, _, _, .nil, e => by simp at e
  | _, _, 0, _, .cons r _, e => by simp at e; subst e; exact ⟨_, rfl, r⟩
  | _, _, i + 1, y, .cons _ t, e => by
    obtain ⟨x, h1, h2⟩ := paired_at (i := i) t (by simpa using e)
    exact ⟨x, by simpa using h1, h2⟩
theorem KeysM.at {w : World} {h : Heap} {ks : List NestedKey} {es : Array DictEntry} (p : KeysM w h ks es) {i : Nat} (hi : i < es.size) : ∃ k, ks[i]? = some k ∧ (es[i]).hash = k.hash w ∧ MIs h k (es[i]).key := by
  obtain ⟨k, h1, h2⟩ := paired_at p (i := i) (y := es[i]) (by simp [hi])
  exact ⟨k, h1, h2⟩
theorem nodup_at {ks : List NestedKey} (hn : ks.Nodup) {i j : Nat} {k : NestedKey} (hi : ks[i]? = some k) (hj : ks[j]? = some k) : i = j :=
  (List.getElem?_inj (List.getElem?_eq_some_iff.mp hi).1 hn).mp (hi.trans hj.symm)

section
variable {prog : Program} {w : World} {A : Around} {E : Value → Shared → Prop} {s : Shared}
theorem mhash {k : NestedKey} {v : Value} {Q : Int → Shared → Prop} (hu : A.units + 8 < cLine) (hk : MIs s.heap k v) (h : Q (k.hash w) { s with toks := s.toks + k.draws }) : wpAny (model prog w) A (pyHash v) Q E s :=
  pyHash_key _ _ _ _ _ hk.1 (by have := hk.2.1; omega) h
theorem meq {x y : NestedKey} {a b : Value} {Q : Bool → Shared → Prop} (hu : A.units + 8 < cLine) (hx : MIs s.heap x a) (hy : MIs s.heap y b) (h : Q (decide (x = y)) s) : wpAny (model prog w) A (eqBool a b) Q E s :=
  eqAt_key x y A s _ _ hx.1 hy.1 (by have := hx.2.1; omega) _ _ _ _ (by rw [← NestedKey.decide_eq]; exact h)
theorem mquiet {k : NestedKey} {v : Value} {Q : Bool → Shared → Prop} (hk : MIs s.heap k v) (h : Q true s) : wpAny (model prog w) A (eqIsQuiet 8 v) Q E s := quiet_key k _ 8 s hk.1 hk.2.1 A E Q h
theorem mtell {k : NestedKey} {v : Value} {stored : List Value} {Q : Bool → Shared → Prop} (hk : MIs s.heap k v) (hst : ∀ u ∈ stored, ∃ k', MIs s.heap k' u) (h : Q false s) : wpAny (model prog w) A (tableMayTell v stored) Q E s := by
  unfold tableMayTell
  split
  · exact wpAny_pure h
  · refine wpAny_bind (mquiet hk ?_)
    simp only [Bool.not_true, Bool.false_eq_true, if_false]
    refine wpAny_bind ?_
    refine wpAny_forIn_list _ (fun rest r s' => s' = s ∧ r = (none, ()) ∧ ∀ u ∈ rest, ∃ k', MIs s.heap k' u) _ ?_ ?_ _ _ ⟨rfl, rfl, hst⟩
    · rintro x rest r s' ⟨rfl, rfl, hr⟩
      obtain ⟨k', hb⟩ := hr x List.mem_cons_self
      refine wpAny_bind (mquiet hb ?_)
      simp only [Bool.not_true, Bool.false_eq_true, if_false]
      exact wpAny_pure ⟨rfl, rfl, fun v hv => hr v (List.mem_cons_of_mem _ hv)⟩
    · rintro r s' ⟨rfl, rfl, _⟩
      exact wpAny_pure h

theorem mfind {d : Addr} {o : Obj} {es : Array DictEntry} {ep : Nat} {ks : List NestedKey} {k : NestedKey} {key : Value} {Q : Option Nat → Shared → Prop} (hu : A.units + 8 < cLine) (hkey : MIs s.heap k key)
    (ho : s.heap.get? d = some o) (hd : o.data = .dict es ep) (he : KeysM w s.heap ks es) (hn : ks.Nodup)
    (hnone : k ∉ ks → Q none s) (hsome : ∀ j : Nat, ks[j]? = some k → Q (some j) s) : wpAny (model prog w) A (dictFind d key (k.hash w)) Q E s := by
  have hsz : es.size = ks.length := he.size
  have haskey : ∀ j : Nat, ks[j]? = some k → ((es[j]?.map (fun x : DictEntry => x.hash)) == some (k.hash w)) = true := by
    intro j hj
    have hl : j < es.size := by rw [hsz]; exact (List.getElem?_eq_some_iff.mp hj).1
    obtain ⟨k', h1, h2, _⟩ := he.at hl
    rw [hj] at h1
    cases h1
    rw [Array.getElem?_eq_getElem hl, Option.map_some, h2]
    simp
  have hst : ∀ v ∈ (placesWithHash es.size (fun i => es[i]?.map (fun x : DictEntry => x.hash)) (k.hash w)).filterMap (fun i => es[i]?.map (fun x : DictEntry => x.key)), ∃ k', MIs s.heap k' v := by
    intro v hv
    obtain ⟨i, _, hi⟩ := List.mem_filterMap.mp hv
    cases hei : es[i]? with
    | none => rw [hei] at hi; cases hi
    | some e =>
      rw [hei] at hi
      obtain rfl : e.key = v := by simpa using hi
      obtain ⟨hl, rfl⟩ := Array.getElem?_eq_some_iff.mp hei
      obtain ⟨k', _, _, h3⟩ := he.at hl
      exact ⟨k', h3⟩
  have plain : wpAny (model prog w) A (dictWalkPlain d key (k.hash w) es (placesWithHash es.size (fun i => es[i]?.map (fun x : DictEntry => x.hash)) (k.hash w))) Q E s := by
    refine wpAny_bind ?_
    refine wpAny_forIn_list _
      (fun rest b s' => s' = s ∧ b = (none, ()) ∧ ∃ i, rest = (List.range' i (es.size - i)).filter (fun i => (es[i]?.map (fun x : DictEntry => x.hash)) == some (k.hash w)) ∧ i ≤ es.size ∧
        ∀ j : Nat, j < i → ks[j]? ≠ some k) _ ?_ ?_ _ _
      ⟨rfl, rfl, 0, by rw [placesWithHash, List.range_eq_range', Nat.sub_zero], Nat.zero_le _, fun _ h => absurd h (Nat.not_lt_zero _)⟩
    · rintro x rest b s' ⟨rfl, rfl, i, hr, hi, hno⟩
      obtain ⟨hix, hxn, hpx, hskip, hrest⟩ := filter_range'_cons _ _ _ _ _ hr.symm
      have hlt : x < es.size := by omega
      obtain ⟨k', hk', hhash, hmi⟩ := he.at hlt
      have hrest' : rest = (List.range' (x + 1) (es.size - (x + 1))).filter (fun i => (es[i]?.map (fun x : DictEntry => x.hash)) == some (k.hash w)) := by rw [hrest]; congr 2; omega
      have hnox : ∀ j : Nat, j < x → ks[j]? ≠ some k := fun j hj e => by
        rcases Nat.lt_or_ge j i with h | h
        · exact hno j h e
        · have := hskip j h hj
          rw [haskey j e] at this
          exact absurd this (by decide)
      rw [Array.getElem?_eq_getElem hlt]
      dsimp only
      have hh : (es[x].hash == k.hash w) = true := by
        have := hpx
        rw [Array.getElem?_eq_getElem hlt, Option.map_some] at this
        simpa using this
      rw [if_pos hh]
      refine wpAny_bind (wpAny_dictEpoch ho hd (wpAny_bind (meq (x := k') (y := k) hu hmi hkey (wpAny_bind (wpAny_dictEpoch ho hd ?_)))))
      show wpAny _ _ (if (ep != ep) = true then _ else _) _ E _
      rw [if_neg (by simp)]
      by_cases hkk : k' = k
      · rw [decide_eq_true hkk]
        subst hkk
        simp only [if_true]
        first
          | exact wpAny_bind (wpAny_rule (wpAny_pure (wpAny_pure (hsome x hk'))))
          | exact wpAny_bind (wpAny_pure (wpAny_bind (wpAny_rule (wpAny_pure (wpAny_pure (hsome x hk'))))))
      · rw [decide_eq_false hkk]
        have step : ∀ j : Nat, j < x + 1 → ks[j]? ≠ some k := fun j hj e => by
          rcases Nat.lt_or_ge j x with h | h
          · exact hnox j h e
          · have : j = x := by omega
            subst this
            rw [hk'] at e
            exact hkk (Option.some.inj e)
        simp only [Bool.false_eq_true, if_false]
        first
          | exact wpAny_bind (wpAny_rule (wpAny_pure ⟨rfl, rfl, x + 1, hrest', hlt, step⟩))
          | exact wpAny_bind (wpAny_pure (wpAny_bind (wpAny_rule (wpAny_pure ⟨rfl, rfl, x + 1, hrest', hlt, step⟩))))
    · rintro b s' ⟨rfl, rfl, i, hr, hi, hno⟩
      have hall : ∀ j : Nat, i ≤ j → j < es.size → ((es[j]?.map (fun x : DictEntry => x.hash)) == some (k.hash w)) = false := by
        intro j h1 h2
        have := List.filter_eq_nil_iff.mp hr.symm j (List.mem_range'_1.mpr ⟨h1, by omega⟩)
        simpa using this
      refine wpAny_pure (hnone fun hm => ?_)
      obtain ⟨j, hj⟩ := List.mem_iff_getElem?.mp hm
      rcases Nat.lt_or_ge j i with h | h
      · exact hno j h hj
      · have := hall j h (by rw [hsz]; exact (List.getElem?_eq_some_iff.mp hj).1)
        rw [haskey j hj] at this
        exact absurd this (by decide)
  have hany : ∀ a, key = .ref a → ¬ (es.any fun e => e.key == Value.ref a && e.hash != k.hash w) = true := by
    intro a ea
    rw [← Array.any_toList, List.any_eq_true]
    rintro ⟨e, hin, hc⟩
    obtain ⟨i, hi, rfl⟩ := List.mem_iff_getElem.mp hin
    have hi' : i < es.size := by simpa using hi
    obtain ⟨k', hk', hhash, hmi⟩ := he.at hi'
    simp only [Array.getElem_toList, Bool.and_eq_true, beq_iff_eq, bne_iff_ne, ne_eq] at hc
    obtain ⟨hxa, hne⟩ := hc
    have h1 := hmi.1
    rw [hxa, ← ea] at h1
    exact hne (by rw [hhash, NestedIs.inj _ _ _ h1 hkey.1])
  unfold dictFind
  try with_reducible refine wpAny_holding ?_
  refine wpAny_bind (wpAny_dictEntries ho hd ?_)
  rcases hkey.2.2 with ⟨i, t, rfl⟩ | ⟨a, rfl⟩
  · dsimp only
    by_cases hall : ((Value.int i t :: (placesWithHash es.size (fun i => es[i]?.map (fun x : DictEntry => x.hash)) (k.hash w)).filterMap (fun i => es[i]?.map (fun x : DictEntry => x.key))).all carriedByValue) = true
    · rw [if_pos hall]
      first
        | exact plain
        | exact wpAny_bind (thn plain fun a s1 q => wpAny_pure q)
    · rw [if_neg hall]
      by_cases hone : (((placesWithHash es.size (fun i => es[i]?.map (fun x : DictEntry => x.hash)) (k.hash w)).filterMap (fun i => es[i]?.map (fun x : DictEntry => x.key))) == [Value.int i t]) = true <;>
      (first | rw [if_pos hone] | rw [if_neg hone]) <;> (first | refine wpAny_bind (wpAny_pure ?_) | refine wpAny_bind (mtell hkey hst ?_)) <;> (
        rw [if_neg (by simp)]
        refine wpAny_bind ?_
        refine wpAny_forIn_list _
          (fun rest b s' => s' = s ∧ ∃ i hit, b = (none, hit) ∧ rest = (List.range' i (es.size - i)).filter (fun i => (es[i]?.map (fun x : DictEntry => x.hash)) == some (k.hash w)) ∧ i ≤ es.size ∧
            ((hit = none ∧ ∀ j : Nat, j < i → ks[j]? ≠ some k) ∨ ∃ j : Nat, hit = some j ∧ j < i ∧ ks[j]? = some k)) _ ?_ ?_ _ _
          ⟨rfl, 0, none, rfl, by rw [placesWithHash, List.range_eq_range', Nat.sub_zero], Nat.zero_le _, .inl ⟨rfl, fun _ h => absurd h (Nat.not_lt_zero _)⟩⟩
        · rintro x rest b s' ⟨rfl, i, hit, rfl, hr, hi, hH⟩
          obtain ⟨hix, hxn, hpx, hskip, hrest⟩ := filter_range'_cons _ _ _ _ _ hr.symm
          have hlt : x < es.size := by omega
          have hrest' : rest = (List.range' (x + 1) (es.size - (x + 1))).filter (fun i => (es[i]?.map (fun x : DictEntry => x.hash)) == some (k.hash w)) := by rw [hrest]; congr 2; omega
          obtain ⟨k', hk', hhash, hmi⟩ := he.at hlt
          have hHx : (hit = none ∧ ∀ j : Nat, j < x → ks[j]? ≠ some k) ∨ ∃ j : Nat, hit = some j ∧ j < x ∧ ks[j]? = some k := by
            rcases hH with ⟨h0, hno⟩ | ⟨j, h1, hji, hj⟩
            · refine .inl ⟨h0, fun j hjx hj => ?_⟩
              rcases Nat.lt_or_ge j i with h | h
              · exact hno j h hj
              · have := hskip j h hjx
                rw [haskey j hj] at this
                exact absurd this (by decide)
            · exact .inr ⟨j, h1, by omega, hj⟩
          have hstay : ¬ k' = k → ((hit = none ∧ ∀ j : Nat, j < x + 1 → ks[j]? ≠ some k) ∨ ∃ j : Nat, hit = some j ∧ j < x + 1 ∧ ks[j]? = some k) := by
            intro hne
            rcases hHx with ⟨h0, hno⟩ | ⟨j, h1, hjx, hj⟩
            · refine .inl ⟨h0, fun j hjx hj => ?_⟩
              rcases Nat.lt_or_ge j x with h | h
              · exact hno j h hj
              · have hjx' : j = x := by omega
                subst hjx'
                rw [hk'] at hj
                exact hne (Option.some.inj hj)
            · exact .inr ⟨j, h1, by omega, hj⟩
          rw [Array.getElem?_eq_getElem hlt]
          dsimp only
          have hh : (es[x].hash == k.hash w) = true := by
            have := hpx
            rw [Array.getElem?_eq_getElem hlt, Option.map_some] at this
            simpa using this
          rw [if_pos hh]
          refine wpAny_bind (wpAny_dictEpoch ho hd (wpAny_bind (meq (x := k') (y := k) hu hmi hkey (wpAny_bind (wpAny_dictEpoch ho hd ?_)))))
          show wpAny _ _ (if (ep != ep) = true then _ else _) _ E _
          rw [if_neg (by simp)]
          by_cases hkk : k' = k
          · rw [decide_eq_true hkk]
            subst hkk
            rcases hHx with ⟨rfl, _⟩ | ⟨j, _, hjx, hj⟩
            · first | rw [if_pos rfl] | skip
              simp only [Option.isSome_none, Bool.false_eq_true, if_false]
              first | refine wpAny_bind (wpAny_pure ?_) | skip
              refine wpAny_bind (wpAny_rule ?_)
              split
              · exact wpAny_pure (wpAny_pure (hsome x hk'))
              · exact wpAny_pure ⟨rfl, x + 1, some x, rfl, hrest', hlt, .inr ⟨x, rfl, Nat.lt_succ_self x, hk'⟩⟩
            · exact absurd (nodup_at hn hj hk') (by omega)
          · rw [decide_eq_false hkk]
            simp only [Bool.false_eq_true, if_false]
            refine wpAny_bind (wpAny_rule ?_)
            first | rw [if_neg (by simp)] | skip
            first
              | exact wpAny_pure ⟨rfl, x + 1, hit, rfl, hrest', hlt, hstay hkk⟩
              | exact wpAny_bind (wpAny_pure (wpAny_pure ⟨rfl, x + 1, hit, rfl, hrest', hlt, hstay hkk⟩))
        · rintro b s' ⟨rfl, i, hit, rfl, hr, hi, hH⟩
          have hall : ∀ j : Nat, i ≤ j → j < es.size → ((es[j]?.map (fun x : DictEntry => x.hash)) == some (k.hash w)) = false := by
            intro j h1 h2
            have := List.filter_eq_nil_iff.mp hr.symm j (List.mem_range'_1.mpr ⟨h1, by omega⟩)
            simpa using this
          rcases hH with ⟨rfl, hno⟩ | ⟨j, rfl, _, hj⟩
          · refine wpAny_pure (hnone fun hm => ?_)
            obtain ⟨j, hj⟩ := List.mem_iff_getElem?.mp hm
            rcases Nat.lt_or_ge j i with h | h
            · exact hno j h hj
            · have := hall j h (by rw [hsz]; exact (List.getElem?_eq_some_iff.mp hj).1)
              rw [haskey j hj] at this
              exact absurd this (by decide)
          · exact wpAny_pure (hsome j hj)
      )
  · dsimp only
    by_cases hall : ((Value.ref a :: (placesWithHash es.size (fun i => es[i]?.map (fun x : DictEntry => x.hash)) (k.hash w)).filterMap (fun i => es[i]?.map (fun x : DictEntry => x.key))).all carriedByValue) = true
    · rw [if_pos hall]
      first
        | exact plain
        | exact wpAny_bind (thn plain fun a s1 q => wpAny_pure q)
    · rw [if_neg hall, if_neg (hany a rfl)]
      by_cases hone : (((placesWithHash es.size (fun i => es[i]?.map (fun x : DictEntry => x.hash)) (k.hash w)).filterMap (fun i => es[i]?.map (fun x : DictEntry => x.key))) == [Value.ref a]) = true <;>
      (first | rw [if_pos hone] | rw [if_neg hone]) <;> (first | refine wpAny_bind (wpAny_pure ?_) | refine wpAny_bind (mtell hkey hst ?_)) <;> (
        rw [if_neg (by simp)]
        refine wpAny_bind ?_
        refine wpAny_forIn_list _
          (fun rest b s' => s' = s ∧ ∃ i hit, b = (none, hit) ∧ rest = (List.range' i (es.size - i)).filter (fun i => (es[i]?.map (fun x : DictEntry => x.hash)) == some (k.hash w)) ∧ i ≤ es.size ∧
            ((hit = none ∧ ∀ j : Nat, j < i → ks[j]? ≠ some k) ∨ ∃ j : Nat, hit = some j ∧ j < i ∧ ks[j]? = some k)) _ ?_ ?_ _ _
          ⟨rfl, 0, none, rfl, by rw [placesWithHash, List.range_eq_range', Nat.sub_zero], Nat.zero_le _, .inl ⟨rfl, fun _ h => absurd h (Nat.not_lt_zero _)⟩⟩
        · rintro x rest b s' ⟨rfl, i, hit, rfl, hr, hi, hH⟩
          obtain ⟨hix, hxn, hpx, hskip, hrest⟩ := filter_range'_cons _ _ _ _ _ hr.symm
          have hlt : x < es.size := by omega
          have hrest' : rest = (List.range' (x + 1) (es.size - (x + 1))).filter (fun i => (es[i]?.map (fun x : DictEntry => x.hash)) == some (k.hash w)) := by rw [hrest]; congr 2; omega
          obtain ⟨k', hk', hhash, hmi⟩ := he.at hlt
          have hHx : (hit = none ∧ ∀ j : Nat, j < x → ks[j]? ≠ some k) ∨ ∃ j : Nat, hit = some j ∧ j < x ∧ ks[j]? = some k := by
            rcases hH with ⟨h0, hno⟩ | ⟨j, h1, hji, hj⟩
            · refine .inl ⟨h0, fun j hjx hj => ?_⟩
              rcases Nat.lt_or_ge j i with h | h
              · exact hno j h hj
              · have := hskip j h hjx
                rw [haskey j hj] at this
                exact absurd this (by decide)
            · exact .inr ⟨j, h1, by omega, hj⟩
          have hstay : ¬ k' = k → ((hit = none ∧ ∀ j : Nat, j < x + 1 → ks[j]? ≠ some k) ∨ ∃ j : Nat, hit = some j ∧ j < x + 1 ∧ ks[j]? = some k) := by
            intro hne
            rcases hHx with ⟨h0, hno⟩ | ⟨j, h1, hjx, hj⟩
            · refine .inl ⟨h0, fun j hjx hj => ?_⟩
              rcases Nat.lt_or_ge j x with h | h
              · exact hno j h hj
              · have hjx' : j = x := by omega
                subst hjx'
                rw [hk'] at hj
                exact hne (Option.some.inj hj)
            · exact .inr ⟨j, h1, by omega, hj⟩
          rw [Array.getElem?_eq_getElem hlt]
          dsimp only
          have hh : (es[x].hash == k.hash w) = true := by
            have := hpx
            rw [Array.getElem?_eq_getElem hlt, Option.map_some] at this
            simpa using this
          rw [if_pos hh]
          refine wpAny_bind (wpAny_dictEpoch ho hd (wpAny_bind (meq (x := k') (y := k) hu hmi hkey (wpAny_bind (wpAny_dictEpoch ho hd ?_)))))
          show wpAny _ _ (if (ep != ep) = true then _ else _) _ E _
          rw [if_neg (by simp)]
          by_cases hkk : k' = k
          · rw [decide_eq_true hkk]
            subst hkk
            rcases hHx with ⟨rfl, _⟩ | ⟨j, _, hjx, hj⟩
            · first | rw [if_pos rfl] | skip
              simp only [Option.isSome_none, Bool.false_eq_true, if_false]
              first | refine wpAny_bind (wpAny_pure ?_) | skip
              refine wpAny_bind (wpAny_rule ?_)
              split
              · exact wpAny_pure (wpAny_pure (hsome x hk'))
              · exact wpAny_pure ⟨rfl, x + 1, some x, rfl, hrest', hlt, .inr ⟨x, rfl, Nat.lt_succ_self x, hk'⟩⟩
            · exact absurd (nodup_at hn hj hk') (by omega)
          · rw [decide_eq_false hkk]
            simp only [Bool.false_eq_true, if_false]
            refine wpAny_bind (wpAny_rule ?_)
            first | rw [if_neg (by simp)] | skip
            first
              | exact wpAny_pure ⟨rfl, x + 1, hit, rfl, hrest', hlt, hstay hkk⟩
              | exact wpAny_bind (wpAny_pure (wpAny_pure ⟨rfl, x + 1, hit, rfl, hrest', hlt, hstay hkk⟩))
        · rintro b s' ⟨rfl, i, hit, rfl, hr, hi, hH⟩
          have hall : ∀ j : Nat, i ≤ j → j < es.size → ((es[j]?.map (fun x : DictEntry => x.hash)) == some (k.hash w)) = false := by
            intro j h1 h2
            have := List.filter_eq_nil_iff.mp hr.symm j (List.mem_range'_1.mpr ⟨h1, by omega⟩)
            simpa using this
          rcases hH with ⟨rfl, hno⟩ | ⟨j, rfl, _, hj⟩
          · refine wpAny_pure (hnone fun hm => ?_)
            obtain ⟨j, hj⟩ := List.mem_iff_getElem?.mp hm
            rcases Nat.lt_or_ge j i with h | h
            · exact hno j h hj
            · have := hall j h (by rw [hsz]; exact (List.getElem?_eq_some_iff.mp hj).1)
              rw [haskey j hj] at this
              exact absurd this (by decide)
          · exact wpAny_pure (hsome j hj)
      )
end
end LL
set_option Elab.async false
set_option linter.all false
set_option maxRecDepth 100000
set_option maxHeartbeats 1000000
set_option autoImplicit false
/-! Dicts with keys that are whole numbers and nested tuples, in the abstract heap. -/
namespace LL
open PySem PySem.Spec PyProof.Rows L2
variable [Wd]
open Sem (wp)

section
variable {P : Program} {w : World} {H : Hp} {h : Heap}
mutual
theorem nis : ∀ (d : PyData) (v : V) (u : Value), HOk P w H h → Rt H v d → isKd d = true → RelV v u → NestedIs h (nk d) u
  | .int i, _, _, _, r, _, ru => by
    cases r
    obtain ⟨t, rfl⟩ := ru
    exact .int _ _
  | .tuple ds, _, _, ok, r, kd, ru => by
    cases r with
    | tup e ra =>
      cases ru
      obtain ⟨z, its, rv, o, h1, h2, n, h3⟩ := ok _ _ e
      unfold isKd at kd
      unfold nk
      exact .tup h1 h2 h3 (by simpa using niss ds _ its ok ra kd rv)
  | .none, _, _, _, _, kd, _ => by simp [isKd] at kd
  | .bool _, _, _, _, _, kd, _ => by simp [isKd] at kd
  | .str _, _, _, _, _, kd, _ => by simp [isKd] at kd
  | .list _, _, _, _, _, kd, _ => by simp [isKd] at kd
  | .dict _, _, _, _, _, kd, _ => by simp [isKd] at kd
theorem niss : ∀ (ds : List PyData) (vs : List V) (us : List Value), HOk P w H h → RpA H vs ds → areKd ds = true → Vals vs us → NestedAll h (nks ds) us
  | [], _, _, _, r, _, ru => by cases r; cases ru; exact .nil
  | d :: ds, _, _, ok, r, kd, ru => by
    cases r with
    | cons r1 r2 =>
      cases ru with
      | cons u1 u2 =>
        unfold areKd at kd
        rw [Bool.and_eq_true] at kd
        exact .cons (nis d _ _ ok r1 kd.1 u1) (niss ds _ _ ok r2 kd.2 u2)
end
theorem mis {d : PyData} {v : V} {u : Value} (ok : HOk P w H h) (r : Rt H v d) (kd : isKd d = true) (dep : (nk d).depth ≤ 8) (ru : RelV v u) : MIs h (nk d) u := by
  refine ⟨nis d v u ok r kd ru, dep, ?_⟩
  cases r with
  | int i => obtain ⟨t, rfl⟩ := ru; exact .inl ⟨_, _, rfl⟩
  | tup e ra => cases ru; exact .inr ⟨_, rfl⟩
  | _ => simp [isKd] at kd
end

/-- at d a dict with these keys and values, that may be written -/
def Dd (H : Hp) (d : Addr) (kvs : List (PyData × PyData)) : Prop := ∃ xs, H d = some (DO Wd.w d xs) ∧ RpD H xs kvs
/-- .. or that is locked -/
def Df (H : Hp) (d : Addr) (kvs : List (PyData × PyData)) : Prop := ∃ xs o, H d = some (.frz o (DO Wd.w d xs)) ∧ RpD H xs kvs
def dgetD (kvs : List (PyData × PyData)) (k : PyData) : Option PyData := (kvs.find? fun p => decide (nk p.1 = nk k)).map (·.2)
def dputD (kvs : List (PyData × PyData)) (k v : PyData) : List (PyData × PyData) := if (dgetD kvs k).isSome then kvs.map (fun p => if nk p.1 = nk k then (p.1, v) else p) else kvs ++ [(k, v)]
def xput (xs : List DEn) (k : NestedKey) (kv v : V) : List DEn := if k ∈ xs.map (·.1) then xs.map (fun x => if x.1 = k then (x.1, x.2.1, v) else x) else xs ++ [(k, kv, v)]

theorem de_keys : ∀ {H : Hp} {xs : List DEn} {kvs : List (PyData × PyData)}, RpD H xs kvs → xs.map (·.1) = kvs.map fun p => nk p.1
  | _, _, [], h => by cases h; rfl
  | _, _, (k, v) :: kvs, h => by
    cases h with
    | cons h0 h1 h2 h3 => rw [List.map_cons, List.map_cons, de_keys h3, h0.1]
theorem RpD.length : ∀ {H : Hp} {xs : List DEn} {kvs : List (PyData × PyData)}, RpD H xs kvs → xs.length = kvs.length
  | _, _, [], h => by cases h; rfl
  | _, _, (k, v) :: kvs, h => by
    cases h with
    | cons h0 h1 h2 h3 => rw [List.length_cons, List.length_cons, RpD.length h3]
theorem dget_some_iff {kvs : List (PyData × PyData)} {k : PyData} : (dgetD kvs k).isSome = true ↔ nk k ∈ kvs.map fun p => nk p.1 := by
  unfold dgetD
  rw [Option.isSome_map, List.find?_isSome]
  constructor
  · rintro ⟨p, h1, h2⟩
    exact List.mem_map.mpr ⟨p, h1, of_decide_eq_true h2⟩
  · intro h
    obtain ⟨p, h1, h2⟩ := List.mem_map.mp h
    exact ⟨p, h1, decide_eq_true h2⟩
theorem de_get {H : Hp} {k : PyData} : ∀ {kvs : List (PyData × PyData)} {xs : List DEn} {j : Nat}, RpD H xs kvs → (xs.map (·.1)).Nodup → (xs.map (·.1))[j]? = some (nk k) → ∃ x d, xs[j]? = some x ∧ dgetD kvs k = some d ∧ Rt H x.2.2 d
  | [], _, _, h, _, e => by cases h; simp at e
  | (kk, vv) :: kvs, _, j, h, hn, e => by
    cases h with
    | @cons x xs _ _ _ h0 h1 h2 h3 =>
      cases j with
      | zero =>
        rw [List.map_cons, List.getElem?_cons_zero] at e
        have e : x.1 = nk k := Option.some.inj e
        refine ⟨x, vv, rfl, ?_, h2⟩
        unfold dgetD
        rw [List.find?_cons_of_pos (by rw [← h0.1, e]; simp)]
        rfl
      | succ j =>
        rw [List.map_cons, List.getElem?_cons_succ] at e
        rw [List.map_cons, List.nodup_cons] at hn
        obtain ⟨y, d, g1, g2, g3⟩ := de_get h3 hn.2 e
        refine ⟨y, d, by simpa using g1, ?_, g3⟩
        unfold dgetD
        rw [List.find?_cons_of_neg]
        · exact g2
        · intro hk
          have hk : nk kk = nk k := of_decide_eq_true hk
          have : x.1 ∈ xs.map (·.1) := by
            rw [h0.1, hk]
            exact List.mem_of_getElem? e
          exact hn.1 this
theorem de_put {H : Hp} {xs : List DEn} {kvs : List (PyData × PyData)} (h : RpD H xs kvs) {k v : PyData} {kv vv : V} (kd : isKd k = true) (dep : (nk k).depth ≤ 8) (rk : Rt H kv k) (rv : Rt H vv v) : RpD H (xput xs (nk k) kv vv) (dputD kvs k v) := by
  unfold xput dputD
  have e : (nk k ∈ xs.map (·.1)) ↔ (dgetD kvs k).isSome = true := by rw [dget_some_iff, de_keys h]
  by_cases hm : nk k ∈ xs.map (·.1)
  · rw [if_pos hm, if_pos (e.mp hm)]
    clear hm e
    have g : ∀ {kvs : List (PyData × PyData)} {xs : List DEn}, RpD H xs kvs → RpD H (xs.map fun x => if x.1 = nk k then (x.1, x.2.1, vv) else x) (kvs.map fun p => if nk p.1 = nk k then (p.1, v) else p) := by
      intro kvs
      induction kvs with
      | nil => intro xs h; cases h; exact .nil
      | cons p kvs ih =>
        intro xs h
        cases h with
        | cons h0 h1 h2 h3 =>
          rw [List.map_cons, List.map_cons]
          rename_i x xs k' v'
          by_cases hk : x.1 = nk k
          · rw [if_pos hk, if_pos (by rw [← hk, h0.1])]
            exact .cons h0 h1 rv (ih h3)
          · rw [if_neg hk, if_neg (by rw [← h0.1]; exact hk)]
            exact .cons h0 h1 h2 (ih h3)
    exact g h
  · rw [if_neg hm, if_neg (fun z => hm (e.mpr z))]
    have g : ∀ {b : List (PyData × PyData)} {a : List DEn}, RpD H a b → RpD H (a ++ [(nk k, kv, vv)]) (b ++ [(k, v)]) := by
      intro b
      induction b with
      | nil => intro a hp; cases hp; exact .cons ⟨rfl, kd, dep⟩ rk rv .nil
      | cons p b ih =>
        intro a hp
        cases hp with
        | cons h0 h1 h2 h3 => exact .cons h0 h1 h2 (ih h3)
    exact g h
theorem xput_keys (xs : List DEn) (k : NestedKey) (kv v : V) : (xput xs k kv v).map (·.1) = if k ∈ xs.map (·.1) then xs.map (·.1) else xs.map (·.1) ++ [k] := by
  unfold xput
  by_cases hm : k ∈ xs.map (·.1)
  · rw [if_pos hm, if_pos hm, List.map_map]
    apply List.map_congr_left
    intro x _
    by_cases hk : x.1 = k <;> simp [hk]
  · rw [if_neg hm, if_neg hm, List.map_append]
    rfl
theorem xput_nodup {xs : List DEn} {k : NestedKey} {kv v : V} (hn : (xs.map (·.1)).Nodup) : ((xput xs k kv v).map (·.1)).Nodup := by
  rw [xput_keys]
  by_cases hm : k ∈ xs.map (·.1)
  · rw [if_pos hm]; exact hn
  · rw [if_neg hm, List.nodup_append]
    refine ⟨hn, by simp, fun a ha b hb e => ?_⟩
    have hb : b = k := by simpa using hb
    subst hb e
    exact hm ha
theorem xput_length (xs : List DEn) (k : NestedKey) (kv v : V) : (xput xs k kv v).length ≤ xs.length + 1 := by
  unfold xput
  split
  · rw [List.length_map]; omega
  · rw [List.length_append]; exact Nat.le_refl _

section
variable {X : Cx} {pins : List (Addr × Obj)} {σ : L2.St} {H : Hp} {s : Shared} {A : Around} {E : Value → Shared → Prop} {d : Addr} {xs : List DEn} {kvs : List (PyData × PyData)}
/-- the dict at d as the heap has it -/
theorem do_at (I : Inv X pins σ H s) (hD : Rd H d (DO X.w d xs)) : (d == sysModules) = false ∧ xs.length ≤ sizeLine ∧ (xs.map (·.1)).Nodup ∧
    ∃ o es ep, s.heap.get? d = some o ∧ o.ExactDict ∧ o.data = .dict es ep ∧ Paired (EnR X.w) xs es.toList := by
  obtain ⟨φ, _, _⟩ := hD.ok I.hok
  exact φ
theorem do_keys (I : Inv X pins σ H s) {es : Array DictEntry} (p : Paired (EnR X.w) xs es.toList) (hk : RpD H xs kvs) : KeysM X.w s.heap (xs.map (·.1)) es := by
  unfold KeysM
  generalize es.toList = l at p
  induction p generalizing kvs with
  | nil => exact .nil
  | @cons x e xs l r t ih =>
    cases hk with
    | cons h0 h1 h2 h3 =>
      refine .cons ⟨r.1, ?_⟩ (ih h3)
      show MIs s.heap x.1 e.key
      rw [h0.1]
      exact mis I.hok h1 h0.2.1 (by rw [← h0.1]; exact h0.2.2) r.2.1
theorem dm_get (I : Inv X pins σ H s) (hu : A.units + 8 < cLine) (hD : Rd H d (DO X.w d xs)) (hk : RpD H xs kvs) {k : PyData} {kv : V} {u : Value} (kd : isKd k = true) (dep : (nk k).depth ≤ 8) (rk : Rt H kv k) (ru : RelV kv u) {Q : Option Value → Shared → Prop}
    (h0 : dgetD kvs k = none → ∀ s', Inv X pins σ H s' → Q none s') (h1 : ∀ v vd r, dgetD kvs k = some vd → Rt H v vd → RelV v r → ∀ s', Inv X pins σ H s' → Q (some r) s') : wpAny (model X.prog X.w) A (dictGet d u) Q E s := by
  obtain ⟨hs, hl, hn, o, es, ep, ho, hx, hd, p⟩ := do_at I hD
  have hkey := mis I.hok rk kd dep ru
  have K := do_keys I p hk
  have I2 : Inv X pins σ H { s with toks := s.toks + (nk k).draws } := I.tok _
  unfold dictGet
  try with_reducible refine wpAny_holding ?_
  refine wpAny_bind (mhash hu hkey (wpAny_bind (mfind (s := { s with toks := s.toks + (nk k).draws }) hu hkey ho hd K hn (fun hno => ?_) fun j hj => ?_)))
  · refine wpAny_pure (h0 ?_ _ I2)
    cases hg : dgetD kvs k with
    | none => rfl
    | some v =>
      have := dget_some_iff.mp (show (dgetD kvs k).isSome = true by rw [hg]; rfl)
      rw [← de_keys hk] at this
      exact absurd this hno
  · obtain ⟨x, vd, e1, e2, rv⟩ := de_get hk hn hj
    refine wpAny_bind (wpAny_dictEntries (s := { s with toks := s.toks + (nk k).draws }) ho hd ?_)
    have hj' : j < es.toList.length := by
      have := Paired.length p
      have hl2 := (List.getElem?_eq_some_iff.mp e1).1
      omega
    obtain ⟨x', e3, hr⟩ := paired_at p (List.getElem?_eq_getElem hj')
    rw [e1] at e3
    cases e3
    have e4 : es[j]? = some (es.toList[j]) := by rw [← Array.getElem?_toList]; exact List.getElem?_eq_getElem hj'
    rw [e4]
    exact wpAny_pure (h1 _ vd _ e2 rv hr.2.2 _ I2)
theorem en_mod {w : World} {k : NestedKey} {v : V} {r : Value} (rv : RelV v r) : ∀ {xs : List DEn} {l : List DictEntry} {j : Nat}, Paired (EnR w) xs l → (xs.map (·.1)).Nodup → (xs.map (·.1))[j]? = some k →
    Paired (EnR w) (xs.map fun x => if x.1 = k then (x.1, x.2.1, v) else x) (l.modify j fun e => { e with val := r })
  | _, _, _, .nil, _, e => by simp at e
  | x :: xs, e :: l, 0, .cons h t, hn, hj => by
    rw [List.map_cons, List.getElem?_cons_zero] at hj
    have hj : x.1 = k := Option.some.inj hj
    rw [List.map_cons, List.nodup_cons] at hn
    rw [List.map_cons, if_pos hj]
    refine .cons ⟨h.1, h.2.1, rv⟩ ?_
    have e2 : (xs.map fun x => if x.1 = k then (x.1, x.2.1, v) else x) = xs := by
      conv => rhs; rw [← List.map_id xs]
      apply List.map_congr_left
      intro y hy
      rw [if_neg]
      · rfl
      · intro z
        exact hn.1 (List.mem_map.mpr ⟨y, hy, by rw [z, hj]⟩)
    rw [e2]
    exact t
  | x :: xs, e :: l, j + 1, .cons h t, hn, hj => by
    rw [List.map_cons, List.getElem?_cons_succ] at hj
    rw [List.map_cons, List.nodup_cons] at hn
    rw [List.map_cons, if_neg (fun z => hn.1 (by rw [z]; exact List.mem_of_getElem? hj))]
    exact .cons h (en_mod rv t hn.2 hj)
theorem dm_set (I : Inv X pins σ H s) (hu : A.units + 8 < cLine) (hD : H d = some (DO X.w d xs)) (hk : RpD H xs kvs) (hz : xs.length < sizeLine) {k : PyData} {kv v : V} {u r : Value} (kd : isKd k = true) (dep : (nk k).depth ≤ 8) (rk : Rt H kv k) (ru : RelV kv u) (rv : RelV v r) {Q : Unit → Shared → Prop}
    (h : ∀ s', Inv X pins σ (upd H d (DO X.w d (xput xs (nk k) kv v))) s' → Q () s') : wpAny (model X.prog X.w) A (dictSet d u r) Q E s := by
  obtain ⟨hs, hl, hn, o, es, ep, ho, hx, hd, p⟩ := do_at I (.inl hD)
  have hkey := mis I.hok rk kd dep ru
  have K := do_keys I p hk
  have mu : Mut (H d) := by rw [hD]; exact True.intro
  have hz2 := xput_length xs (nk k) kv v
  have sz : es.size = xs.length := by have := Paired.length p; simpa using this.symm
  have I2 : Inv X pins σ H { s with toks := s.toks + (nk k).draws } := I.tok _
  unfold dictSet
  try with_reducible refine wpAny_holding ?_
  refine wpAny_bind (mhash hu hkey ?_)
  unfold dictSetHashed
  try with_reducible refine wpAny_holding ?_
  refine wpAny_bind (mfind (s := { s with toks := s.toks + (nk k).draws }) hu hkey ho hd K hn (fun hno => ?_) fun j hj => ?_)
  · refine wpAny_bind (wpAny_rule (wpAny_updateDictKeys (hz := by omega) (s := { s with toks := s.toks + (nk k).draws }) ho hd (h _ (d_write I2 mu (Heap.SameBut.update ..) ⟨_, Heap.get?_update_self _ ho (Obj.isFreed_of_dict (Obj.data_mapDictKeys hd _))⟩
      (do_mk hs (by omega) (xput_nodup hn) (Heap.get?_update_self _ ho (Obj.isFreed_of_dict (Obj.data_mapDictKeys hd _))) (hx.mapDictKeys _) (Obj.data_mapDictKeys hd _) ?_)))))
    unfold xput
    rw [if_neg hno]
    have g : ∀ {a : List DEn} {b : List DictEntry}, Paired (EnR X.w) a b → Paired (EnR X.w) (a ++ [(nk k, kv, v)]) (b ++ [⟨(nk k).hash X.w, u, r⟩]) := by
      intro a b hp
      induction hp with
      | nil => exact .cons ⟨rfl, ru, rv⟩ .nil
      | cons r _ ih => exact .cons r ih
    simpa using g p
  · refine wpAny_bind (wpAny_rule (wpAny_bind (wpAny_updateDict (s := { s with toks := s.toks + (nk k).draws }) ho hd (wpAny_point (h _ (d_write I2 mu (Heap.SameBut.update ..) ⟨_, Heap.get?_update_self _ ho (Obj.isFreed_of_dict (Obj.data_mapDict hd _))⟩
      (do_mk hs (by omega) (xput_nodup hn) (Heap.get?_update_self _ ho (Obj.isFreed_of_dict (Obj.data_mapDict hd _))) (hx.mapDict _) (Obj.data_mapDict hd _) ?_)))))))
    unfold xput
    rw [if_pos (List.mem_of_getElem? hj)]
    have := en_mod (k := nk k) rv p hn hj
    obtain ⟨l⟩ := es
    simpa using this
end
end LL
set_option Elab.async false
set_option linter.all false
set_option maxRecDepth 100000
set_option maxHeartbeats 1000000
set_option autoImplicit false
/-! The dict rules: not in, d[k], d[k] = v, len, {}, {k: v}, walks, list(d), comprehensions. -/
namespace LL
open PySem PySem.Spec PyProof.Rows L2
variable [Wd]
open Sem (wp)
section
variable {X : Cx} {pins : List (Addr × Obj)} {σ : L2.St} {H : Hp} {s : Shared} {E : Value → Shared → Prop} {d : Addr} {xs : List DEn} {kvs : List (PyData × PyData)}
theorem do_type (I : Inv X pins σ H s) (hD : Rd H d (DO X.w d xs)) : s.TypeIs (.ref d) "dict" := by
  obtain ⟨_, _, _, o, es, ep, ho, hx, hd, p⟩ := do_at I hD
  exact ⟨o, ho, hx.1⟩
/-- k not in d -/
def rNiD : R2 := fun x y H Q => ∃ d kvs k, y = .ref d ∧ Dd H d kvs ∧ Rt H x k ∧ isKd k = true ∧ (nk k).depth ≤ 8 ∧ Q (.bl (!(dgetD kvs k).isSome)) H
theorem op_niD (hw : X.w = Wd.w) (hu : X.A.units + 9 < cLine) : OpR X (compareOp .NotIn) (rNiD) := by
  intro pins s σ H x y v u Q I rx ry h
  obtain ⟨d, kvs, k, rfl, ⟨xs, hD, hk⟩, rk, kd, dep, q⟩ := h
  cases ry
  rw [← hw] at hD
  have hT := do_type I (.inl hD)
  have hs := (do_at I (.inl hD)).1
  show wpAny _ _ (do return Value.bool (!(← contains (.ref d) v))) _ _ s
  refine wpAny_bind ?_
  unfold contains
  try with_reducible refine wpAny_holding ?_
  refine wpAny_bind (wpAny_specialOf hT PySem.slot_dict_contains.lookup ?_)
  show wpAny _ _ (if (some (Value.builtin "dict.__contains__") == some Value.none) = true then _ else _) _ _ s
  rw [if_neg (by rw [beq_builtin_none]; exact Bool.false_ne_true)]
  refine wpAny_bind (wpAny_callSpecialUnlessNone?_slot (name := Str.ofString "__contains__") hT PySem.slot_dict_contains
    (wpAny_call_entry PySem.slot_dict_contains hT PySem.entry_dict_contains ?_ (PySem.args_dict_contains _ _)))
  show wpAny _ _ (dictGet d v >>= _) _ _ s
  refine wpAny_bind (dm_get (A := X.A.in1) I (by show X.A.units + 1 + 8 < cLine; omega) (.inl hD) hk kd dep rk rx (fun e s' I' => ?_) fun w vd r e rv rw' s' I' => ?_)
  · show wpAny _ _ (Builtin.Dict.pendingKey? d v >>= _) _ _ _
    refine wpAny_bind (wpAny_pendingKey_other hs (wpAny_pure ⟨_, rfl, wpAny_truthy_bool (wpAny_pure ⟨.bl true, H, I', rfl, ?_⟩)⟩))
    rw [e] at q
    exact q
  · show wpAny _ _ (ret (.bool true)) _ _ _
    refine wpAny_pure ⟨_, rfl, wpAny_truthy_bool (wpAny_pure ⟨.bl false, H, I', rfl, ?_⟩)⟩
    rw [e] at q
    exact q
/-- d[k] -/
def rIxDd : R2 := fun x y H Q => ∃ d kvs k vd, x = .ref d ∧ Dd H d kvs ∧ Rt H y k ∧ isKd k = true ∧ (nk k).depth ≤ 8 ∧ dgetD kvs k = some vd ∧ ∀ v, Rt H v vd → Q v H
theorem pe_ddget {o i : Expr} {pos : Pos} {td ty : TE} (hw : X.w = Wd.w) (hu : X.A.units + 9 < cLine) (ho : PE X o td) (hi : PE X i ty) (hs : NoSl i := by exact fun _ _ => rfl) : PE X (.Subscript o i pos) (tOp (rIxDd) td ty) := by
  refine ⟨fun pins s0 σ H0 Q I0 h0 => ?_⟩
  refine subD_of PySem.F.slot_dict_getitem.lookup hs (thn (ho.run pins s0 σ H0 _ I0 h0) fun v s1 ⟨x, H1, I1, rx, q1⟩ => thn (hi.run pins s1 σ H1 _ I1 q1) fun u s ⟨y, H, I, ry, h⟩ => ?_)
  obtain ⟨d, kvs, k, vd, rfl, ⟨xs, hD, hk⟩, rk, kd, dep, e, q⟩ := h
  cases rx
  rw [← hw] at hD
  have hT := do_type I (.inl hD)
  refine ⟨hT, ?_⟩
  unfold getItem
  try with_reducible refine wpAny_holding ?_
  refine wpAny_bind (wpAny_sequenceKey hT (by decide) ?_)
  refine wpAny_bind (wpAny_callSpecial?_slot (name := Str.ofString "__getitem__") hT PySem.slot_dict_getitem
    (wpAny_call_entry PySem.slot_dict_getitem hT PySem.entry_dict_getitem ?_ (PySem.args_dict_getitem _ _)))
  show wpAny _ _ (dictGet d u >>= _) _ _ s
  refine wpAny_bind (dm_get (A := X.A.in1) I (by show X.A.units + 1 + 8 < cLine; omega) (.inl hD) hk kd dep rk ry (fun e' s' I' => ?_) fun w vd' r e' rv rw' s' I' => ?_)
  · rw [e] at e'; cases e'
  · rw [e] at e'; cases e'
    exact wpAny_pure ⟨r, rfl, wpAny_pure ⟨w, H, I', rw', q w rv⟩⟩
/-- d[k] = v -/
def rSetD : V → V → V → Hp → (Hp → Prop) → Prop := fun o i v H Q => ∃ d kvs k vd, o = .ref d ∧ Dd H d kvs ∧ Rt H i k ∧ isKd k = true ∧ (nk k).depth ≤ 8 ∧ Rt H v vd ∧ kvs.length < sizeLine ∧
  ∀ H', Dd H' d (dputD kvs k vd) → (∀ b, b ≠ d → H' b = H b) → Q H'
theorem set_dd (hw : X.w = Wd.w) (hu : X.A.units + 9 < cLine) : PSet X (rSetD) := by
  intro pins s σ H o i v ov iv u Q I ro ri rv h
  obtain ⟨d, kvs, k, vd, rfl, ⟨xs, hD, hk⟩, rk, kd, dep, rvd, hz, q⟩ := h
  cases ro
  rw [← hw] at hD
  have hT := do_type I (.inl hD)
  have hl : xs.length = kvs.length := RpD.length hk
  unfold setItem
  try with_reducible refine wpAny_holding ?_
  refine wpAny_bind (wpAny_sequenceKey hT (by decide) ?_)
  refine wpAny_bind (wpAny_callSpecial?_slot (name := Str.ofString "__setitem__") hT PySem.slot_dict_setitem
    (wpAny_call_entry PySem.slot_dict_setitem hT PySem.entry_dict_setitem ?_ (PySem.args_dict_setitem _ _ _)))
  show wpAny _ _ (Builtin.Dict.notOrdered "__setitem__" ⟨[.ref d, iv, u], []⟩ >>= _) _ _ s
  refine wpAny_bind (wpAny_notOrdered_dict hT ?_)
  show wpAny _ _ (dictSet d iv u >>= _) _ _ s
  refine wpAny_bind (dm_set (A := X.A.in1) I (by show X.A.units + 1 + 8 < cLine; omega) hD hk (by omega) kd dep rk ri rv fun s' I' => wpAny_pure ⟨.none, rfl, wpAny_pure ⟨_, I', q _ ⟨_, by rw [hw]; exact upd_same, ?_⟩ fun b hb => upd_ne hb⟩⟩)
  have kp : ∀ a o, Imm o → H a = some o → (upd H d (DO X.w d (xput xs (nk k) i v))) a = some o := fun a o im e => by
    rw [upd_ne (ne_of e hD im.noE)]; exact e
  exact RpD.keep kp _ _ (de_put hk kd dep rk rvd)
/-- len(d) -/
theorem call_len_dd (hw : X.w = Wd.w) : CallR X (.builtin "len") (fun xs H Q => ∃ d kvs, xs = [.ref d] ∧ (Dd H d kvs ∨ Df H d kvs) ∧ Q (.int kvs.length) H) := by
  intro pins s σ H vs us Q I r h
  obtain ⟨d, kvs, rfl, hD, q⟩ := h
  obtain ⟨u, rfl, rx⟩ := vals1 r
  obtain rfl : u = .ref d := rx
  obtain ⟨xs, hR, hk⟩ : ∃ xs, Rd H d (DO X.w d xs) ∧ RpD H xs kvs := by
    rw [hw]
    rcases hD with ⟨xs, h1, h2⟩ | ⟨xs, o, h1, h2⟩
    · exact ⟨xs, .inl h1, h2⟩
    · exact ⟨xs, .inr ⟨o, h1⟩, h2⟩
  obtain ⟨hs, hl, hn, o, es, ep, ho, hx, hd, p⟩ := do_at I hR
  have l1 : xs.length = kvs.length := RpD.length hk
  have l2 : es.size = xs.length := by have := Paired.length p; simpa using this.symm
  have hT := do_type I hR
  have hr : s.heap.DictRaw d es ep := ⟨o, ho, hx, hd⟩
  refine PyProof.Rows.call_len_slot (n := kvs.length) hT F.slot_dict_len (fun Q' hq => call_len_raw hs hr (by rw [l2, l1]; exact hq)) (by omega) (by rw [sizeLine_eq] at hl; omega) ?_
  exact ⟨.int ((kvs.length : Nat) : Int), H, I.tok _, ⟨_, rfl⟩, q⟩
/-- {} -/
theorem pe_dd0 {pos : Pos} (hw : X.w = Wd.w) : PE X (.Dict [] [] pos) (fun _ H Q => ∀ p H', H p = none → Dd H' p [] → (∀ b, b ≠ p → H' b = H b) → Q (.ref p) H') := ⟨fun pins s σ H Q I h =>
  wpAny_Dict_empty ⟨.ref s.heap.objs.size, _, I.laid (a := s.heap.objs.size) (o := DO X.w s.heap.objs.size []) (t' := s.toks) (fun _ _ q => Heap.get?_push_of_some _ q) (Nat.le_refl _)
    (do_mk (beq_eq_false_iff_ne.mpr (Ne.symm (Nat.ne_of_lt I.big))) (Nat.zero_le _) List.nodup_nil (Heap.get?_push_size _ rfl) ⟨rfl, rfl, rfl⟩ rfl .nil), rfl,
    h _ _ (I.hok.fresh (Nat.le_refl _)) ⟨[], by rw [hw]; exact upd_same, .nil⟩ fun b hb => upd_ne hb⟩⟩
/-- the dict at d is locked from here on -/
theorem pss_freeze {st : List Stmt} {t : TS} (h : PSs X st t) : PSs X st (fun D σ H => ∃ d u, H d = some u ∧ Mut (some u) ∧ ∀ o, t D σ (upd H d (.frz o u))) := ⟨fun pins s σ H D I ⟨d, u, hd, mu, q⟩ => by
  obtain ⟨od, I1⟩ := I.lock hd mu
  exact h.run pins s σ _ D I1 (q od)⟩
theorem ps_freeze {st : Stmt} {t : TS} (h : PS X st t) : PS X st (fun D σ H => ∃ d u, H d = some u ∧ Mut (some u) ∧ ∀ o, t D σ (upd H d (.frz o u))) := ⟨fun pins s σ H D I ⟨d, u, hd, mu, q⟩ => by
  obtain ⟨od, I1⟩ := I.lock hd mu
  exact h.run pins s σ _ D I1 (q od)⟩
theorem dd_freeze {w : World} {o : Obj} (h : Dd H d kvs) : ∃ u, H d = some u ∧ Mut (some u) ∧ ∀ o, Df (upd H d (.frz o u)) d kvs := by
  obtain ⟨xs, h1, h2⟩ := h
  refine ⟨_, h1, True.intro, fun o => ⟨xs, o, upd_same, RpD.keep (fun a ys im e => ?_) _ _ h2⟩⟩
  rw [upd_ne (ne_of e h1 im.noE)]
  exact e
end
end LL
set_option Elab.async false
set_option linter.all false
set_option maxRecDepth 100000
set_option maxHeartbeats 1000000
set_option autoImplicit false
/-! Frozen dicts walked: items, keys, list(d), len(d); {k: v}. -/
namespace LL
open PySem PySem.Spec PyProof.Rows L2
variable [Wd]
open Sem (wp)
section
variable {X : Cx} {pins : List (Addr × Obj)} {σ : L2.St} {H : Hp} {s : Shared} {d : Addr} {o : Obj} {xs : List DEn}
theorem inv_frzD (hw : X.w = Wd.w) (I : Inv X pins σ H s) (h : H d = some (.frz o (DO Wd.w d xs))) :
    (d == sysModules) = false ∧ s.heap.get? d = some o ∧ o.ExactDict ∧ xs.length ≤ sizeLine ∧ ∃ (es : Array DictEntry) (ep : Nat), o.data = .dict es ep ∧ es.size = xs.length ∧ Paired (EnR X.w) xs es.toList := by
  obtain ⟨hd, ⟨hs, hl, hn, o', es, ep, ho, hx, hdt, p⟩, _⟩ := I.hok d _ h
  rw [hd] at ho
  cases ho
  refine ⟨hs, hd, hx, hl, es, ep, hdt, ?_, by rw [hw]; exact p⟩
  have := Paired.length p
  simpa using this.symm
end
/-- the pairs of the locked dict at d, each a new tuple -/
def ItiD (d : Addr) (o : Obj) (xs : List DEn) : It :=
  ⟨fun i H => H d = some (.frz o (DO Wd.w d xs)) ∧ i < xs.length, fun i H x H' => ∃ T e, xs[i]? = some e ∧ x = .ref T ∧ H T = none ∧ H' = upd H T (.tup [e.2.1, e.2.2]), fun i H => H d = some (.frz o (DO Wd.w d xs)) ∧ xs.length ≤ i⟩
/-- the keys -/
def ItkD (d : Addr) (o : Obj) (xs : List DEn) : It :=
  ⟨fun i H => H d = some (.frz o (DO Wd.w d xs)) ∧ i < xs.length, fun i H x H' => H' = H ∧ ∃ e, xs[i]? = some e ∧ x = e.2.1, fun i H => H d = some (.frz o (DO Wd.w d xs)) ∧ xs.length ≤ i⟩
theorem pe_at {w : World} {xs : List DEn} {es : Array DictEntry} {i : Nat} {e : DEn} (p : Paired (EnR w) xs es.toList) (h : xs[i]? = some e) : ∃ en, es[i]? = some en ∧ RelV e.2.1 en.key ∧ RelV e.2.2 en.val := by
  obtain ⟨en, h1, h2⟩ := paired_get p h
  exact ⟨en, by rw [← Array.getElem?_toList]; exact h1, h2.2⟩
section
variable {P : Program} {w : World} {K : PySem.W.Frag} {tg : Expr} {d : Addr} {o : Obj} {es : Array DictEntry} {ep : Nat} {xs : List DEn}
theorem turn_itemsD2 {elts : List Expr} {kk : Nat} {tpos : Pos} (hww : w = Wd.w) (it : Addr) (hod : o.data = .dict es ep) :
    Turn P w K (.Tuple elts kk tpos) (ItiD d o xs) [it] it (fun i h => ∃ ok ov, IsItemIter h it d i xs.length ep ok ov) where
  mem := by simp
  obj := fun i h st b hb => by
    have e : b = it := by simpa using hb
    subst e
    obtain ⟨ok, ov, e⟩ := st
    exact ⟨_, e, fun v z => nomatch z⟩
  keep := fun i h h' st k => let ⟨ok, ov, e⟩ := st; ⟨ok, ov, k it (by simp) _ e⟩
  item := by
    intro X hP hw hK hc i pins s σ H E I hf st hg
    subst hP hw hK
    obtain ⟨hd, hi⟩ := hg
    obtain ⟨f0, f1, f2, f3, f4, f5⟩ := hf it (by simp)
    obtain ⟨hs, hgd, hx, hl, es', ep', hdt, hsz, p⟩ := inv_frzD hww I hd
    obtain ⟨rfl, rfl⟩ := dict_ep hod hdt
    have hx2 : xs[i]? = some xs[i] := List.getElem?_eq_getElem hi
    obtain ⟨en, hen, rk, rv⟩ := pe_at p hx2
    have hi2 : i < es'.size := by omega
    have een : es'[i] = en := by
      rw [Array.getElem?_eq_getElem hi2] at hen
      exact Option.some.inj hen
    obtain ⟨ok, ov, he⟩ := st
    have hlt : it < s.heap.objs.size := Heap.lt_size he
    rw [← hsz] at he
    refine wpAny_pyNext_items_item_raw he ⟨o, hgd, hx, hdt⟩ hi2 fun h' ho hT hz hk => ?_
    refine ⟨_, rfl, wpAny_letOwnedTupleGo_items (s := { s with heap := h' }) ho fun h'' he' sb => ?_⟩
    rw [een] at hT he'
    have hT2 : h''.get? s.heap.objs.size = some { cls := .type "tuple", data := .seq #[en.key, en.val] } := (sb.2 _ (Nat.ne_of_gt hlt)).trans hT
    have new : ObjOk X.prog X.w (upd H s.heap.objs.size (.tup [xs[i].2.1, xs[i].2.2])) h'' s.heap.objs.size (.tup [xs[i].2.1, xs[i].2.2]) :=
      ⟨by show 2 ≤ sizeLine; decide, [en.key, en.val], .cons rk (.cons rv .nil), ⟨_, hT2, rfl, _, rfl⟩⟩
    have I1 : Inv X pins σ (upd H s.heap.objs.size (.tup [xs[i].2.1, xs[i].2.2])) { s with heap := h'' } :=
      I.turnedNew (t' := s.toks) (ch := [it]) (fun b ob hb e => (sb.2 b (by simpa using hb)).trans (hk b ob (by simpa using hb) e)) hf (Nat.le_refl _) new
    refine ⟨.ref s.heap.objs.size, _, I1, rfl, ⟨_, xs[i], hx2, rfl, I.hok.fresh (Nat.le_refl _), rfl⟩, ⟨en.key, en.val, ?_⟩, fun b hb => ?_⟩
    · rw [← hsz]; exact he'
    · have e : b = it := by simpa using hb
      rw [e, upd_ne (Nat.ne_of_lt hlt)]
      exact (hf it (by simp)).1
  done := by
    intro X hP hw hK hc i pins s σ H E I hf st hg
    subst hP hw hK
    obtain ⟨hd, hi⟩ := hg
    obtain ⟨f0, f1, f2, f3, f4, f5⟩ := hf it (by simp)
    obtain ⟨hs, hgd, hx, hl, es', ep', hdt, hsz, p⟩ := inv_frzD hww I hd
    obtain ⟨rfl, rfl⟩ := dict_ep hod hdt
    obtain ⟨ok, ov, he⟩ := st
    rw [← hsz] at he
    exact wpAny_pyNext_items_end_raw (I.ok.hd hc) he ⟨o, hgd, hx, hdt⟩ (by omega) fun h' eb => ⟨rfl, I.turned (t' := s.toks) (fun b ob hb e => eb b ob hb e) f0 f1 f3 f4 f5⟩
  self := fun A i s Q E st h => let ⟨_, _, e⟩ := st; PySem.W.kcp_self e h
theorem turn_keysD2 (hww : w = Wd.w) (it : Addr) (hod : o.data = .dict es ep) : Turn P w K tg (ItkD d o xs) [it] it (fun i h => h.IsKeyIter it d i xs.length ep) where
  mem := by simp
  obj := fun i h st b hb => by
    have e : b = it := by simpa using hb
    subst e
    obtain ⟨oi, e, c, dd⟩ := st
    exact ⟨oi, e, fun v z => by rw [dd] at z; cases z⟩
  keep := fun i h h' st k => st.at fun oi e => k it (by simp) oi e
  item := by
    intro X hP hw hK hc i pins s σ H E I hf st hg
    subst hP hw hK
    obtain ⟨hd, hi⟩ := hg
    obtain ⟨f0, f1, f2, f3, f4, f5⟩ := hf it (by simp)
    obtain ⟨hs, hgd, hx, hl, es', ep', hdt, hsz, p⟩ := inv_frzD hww I hd
    obtain ⟨rfl, rfl⟩ := dict_ep hod hdt
    have hx2 : xs[i]? = some xs[i] := List.getElem?_eq_getElem hi
    obtain ⟨en, hen, rk, rv⟩ := pe_at p hx2
    refine next_key_item st hgd hdt hsz hen fun h' st' sb => ?_
    have I1 : Inv X pins σ H { s with heap := h' } := I.turned (t' := s.toks) (fun b ob hb e => (sb.2 b hb).trans e) f0 f1 f3 f4 f5
    obtain ⟨oi, e, c, dd⟩ := id st'
    exact ⟨en.key, rfl, go_of (s := { s with heap := h' }) e c dd (by decide) ⟨_, H, I1, rk, ⟨rfl, _, hx2, rfl⟩, st', fun b hb => (hf b hb).1⟩⟩
  done := by
    intro X hP hw hK hc i pins s σ H E I hf st hg
    subst hP hw hK
    obtain ⟨hd, hi⟩ := hg
    obtain ⟨f0, f1, f2, f3, f4, f5⟩ := hf it (by simp)
    obtain ⟨hs, hgd, hx, hl, es', ep', hdt, hsz, p⟩ := inv_frzD hww I hd
    obtain ⟨rfl, rfl⟩ := dict_ep hod hdt
    exact next_key_end (I.ok.hd hc) st hgd hdt hsz hi fun h' eb => ⟨rfl, I.turned (t' := s.toks) (fun b ob hb e => eb b ob hb e) f0 f1 f3 f4 f5⟩
  self := fun A i s Q E st h => by
    refine wpAny_pyIter_slot st.typeIs F.slot_dict_keyiterator_iter (wpAny_call_entry F.slot_dict_keyiterator_iter st.typeIs F.entry_dict_keyiterator_iter ?_ (F.args_dict_keyiterator_iter_1 _))
    show wpAny _ _ (ret (.ref it)) _ _ s
    exact wpAny_pure ⟨_, rfl, "dict_keyiterator", _, st.typeIs, F.slot_dict_keyiterator_next.lookup, h⟩
end
section
variable {X : Cx} {tg e : Expr} {td : TE} {apos cpos : Pos}
def iItemsD (td : TE) : TI := fun σ H R => td σ H fun x H1 => ∃ d o xs, x = .ref d ∧ H1 d = some (.frz o (DO Wd.w d xs)) ∧ R (ItiD d o xs) H1
def iKeysD (td : TE) : TI := fun σ H R => td σ H fun x H1 => ∃ d o xs, x = .ref d ∧ H1 d = some (.frz o (DO Wd.w d xs)) ∧ R (ItkD d o xs) H1
theorem pi_keysD2 (hw : X.w = Wd.w) (he : PE X e td) : PI X tg e (iKeysD td) := by
  refine ⟨fun pins s σ H R I h => ?_⟩
  refine thn (he.run pins s σ H _ I h) fun u s1 ⟨x, H1, I1, rx, d, o, xs, ex, hd, q⟩ => ?_
  subst ex
  obtain rfl : u = Value.ref d := rx
  obtain ⟨hs, hgd, hx, hl, es, ep, hdt, hsz, p⟩ := inv_frzD hw I1 hd
  refine iter_keys hs hgd hx hdt (pi_one (tk := s1.toks) I1 _ (turn_keysD2 hw _ hdt) ⟨_, Heap.get?_push_size _ rfl, rfl, ?_⟩ q)
  rw [hsz] <;> rfl
theorem pi_itemsD2 {elts : List Expr} {kk : Nat} {tpos : Pos} (hw : X.w = Wd.w) (he : PE X e td) (hbase : attributeBase e "items" X.env (eval e X.env) = eval e X.env := by rfl) (hline : (apos.endLine == cpos.line) = true := by rfl) :
    PI X (.Tuple elts kk tpos) (.Call (.Attribute e "items" apos) [] [] cpos) (iItemsD td) := by
  refine ⟨fun pins s σ H R I h => ?_⟩
  refine wpAny_Call_method (T := "dict") (id := "dict.items") hbase rfl hline F.plainAttrs_dict F.slot_dict_items F.type_dict_items (thn (he.run pins s σ H _ I h) fun u s1 ⟨x, H1, I1, rx, d, o, xs, ex, hd, q⟩ => ?_)
  subst ex
  obtain rfl : u = Value.ref d := rx
  obtain ⟨hs, hgd, hx, hl, es, ep, hdt, hsz, p⟩ := inv_frzD hw I1 hd
  have raw : s1.heap.DictRaw d es ep := ⟨o, hgd, hx, hdt⟩
  refine ⟨⟨o, hgd, hx.1⟩, fun b q => by cases q; exact ⟨o, hgd, hx.2.1⟩, ?_⟩
  have I2 : Inv X pins σ H1 { s1 with heap := s1.heap.push { cls := .type "dict_items", data := .fields #[.ref d] } } := I1.kept (t' := s1.toks) fun b ob q => Heap.get?_push_of_some _ q
  have fin : wpAny (model X.prog X.w) X.A (pyIter (.ref s1.heap.objs.size)) (PIE X pins σ (.Tuple elts kk tpos) R) X.xe { s1 with heap := s1.heap.push { cls := .type "dict_items", data := .fields #[.ref d] } } := by
    refine wpAny_pyIter_items_raw (d := d) (es := es) (ep := ep) ⟨_, Heap.get?_push_size _ rfl, rfl, rfl⟩ ⟨o, Heap.get?_push_of_some _ hgd, hx, hdt⟩ (pi_one (tk := s1.toks) I2 _ (turn_itemsD2 hw _ hdt) ⟨.none, .none, ?_⟩ q)
    rw [← hsz]
    exact Heap.get?_push_size _ rfl
  show wpAny _ _ (callWith cpos (.builtin "dict.items") [.ref d] [] []) _ X.xe s1
  exact method_meetsIn F.slot_dict_items F.entry_dict_items rfl (PySem.evalArgs_none ⟨rfl, ⟨o, hgd, hx.1⟩, F.args_dict_items_1 _, _, meets_dict_items_raw d hs, ⟨es, ep, raw⟩, fin⟩)
end
section
variable {X : Cx} {Ps : List Addr} {tg e : Expr} {E : DEnv → Option PyData} {apos cpos pos : Pos}
def iKyD : PyData → Option (List PyData)
  | .dict kvs => if kvs.all (fun p => isKd p.1) = true then some (kvs.map (·.1)) else none
  | _ => none
def iItD : PyData → Option (List PyData)
  | .dict kvs => if kvs.all (fun p => isKd p.1) = true then some (kvs.map fun p => .tuple [p.1, p.2]) else none
  | _ => none
theorem RpD.get : ∀ {H : Hp} {kvs : List (PyData × PyData)} {xs : List DEn} {i : Nat} {p : PyData × PyData}, RpD H xs kvs → kvs[i]? = some p → ∃ e, xs[i]? = some e ∧ Rt H e.2.1 p.1 ∧ Rt H e.2.2 p.2
  | _, [], _, _, _, h, e => by simp at e
  | _, (k, v) :: kvs, _, 0, p, h, e => by
    cases h with
    | cons h0 h1 h2 h3 =>
      simp at e
      subst e
      exact ⟨_, rfl, h1, h2⟩
  | _, (k, v) :: kvs, _, i + 1, p, h, e => by
    cases h with
    | cons h0 h1 h2 h3 =>
      obtain ⟨x, e1, r⟩ := RpD.get (i := i) h3 (by simpa using e)
      exact ⟨x, by simpa using e1, r⟩
theorem dict_kd {H : Hp} {v : V} {kvs : List (PyData × PyData)} (r : Rp H v (.dict kvs)) (hk : kvs.all (fun p => isKd p.1) = true) : ∃ d o xs, v = .ref d ∧ H d = some (.frz o (DO Wd.w d xs)) ∧ RpD H xs kvs := by
  generalize hd : PyData.dict kvs = dd at r
  cases r with
  | dct e r => cases hd; exact ⟨_, _, _, rfl, e, r⟩
  | opl e => cases hd; simp [isKd] at hk
  | opd e => cases hd; simp [isKd] at hk
  | _ => cases hd
theorem itok_keys {a : Addr} {o : Obj} {xs : List DEn} {kvs : List (PyData × PyData)} {H : Hp} (k : Ok Ps H) (e : H a = some (.frz o (DO Wd.w a xs))) (r : RpD H xs kvs) : ItOk Ps (ItkD a o xs) (kvs.map (·.1)) H := fun i H1 s1 k1 => by
  have e1 := s1.imm k (.frz _ _) e
  refine ⟨fun d hd => ?_, fun hl => ⟨e1, by rw [r.length]; simpa using hl⟩⟩
  rw [List.getElem?_map] at hd
  obtain ⟨p, hp, rfl⟩ := Option.map_eq_some_iff.mp hd
  obtain ⟨x, e2, rk, rv⟩ := r.get hp
  refine ⟨⟨e1, (List.getElem?_eq_some_iff.mp e2).1⟩, fun x' H' ⟨eH, en, he, hx⟩ => ?_⟩
  subst eH hx
  rw [e2] at he
  cases he
  exact ⟨.refl, k1, Rp.mono k s1 _ _ rk⟩
theorem itok_items {a : Addr} {o : Obj} {xs : List DEn} {kvs : List (PyData × PyData)} {H : Hp} (k : Ok Ps H) (e : H a = some (.frz o (DO Wd.w a xs))) (r : RpD H xs kvs) : ItOk Ps (ItiD a o xs) (kvs.map fun p => .tuple [p.1, p.2]) H := fun i H1 s1 k1 => by
  have e1 := s1.imm k (.frz _ _) e
  refine ⟨fun d hd => ?_, fun hl => ⟨e1, by rw [r.length]; simpa using hl⟩⟩
  rw [List.getElem?_map] at hd
  obtain ⟨p, hp, rfl⟩ := Option.map_eq_some_iff.mp hd
  obtain ⟨x, e2, rk, rv⟩ := r.get hp
  refine ⟨⟨e1, (List.getElem?_eq_some_iff.mp e2).1⟩, fun x' H' ⟨T, en, he, hx, hT, eH⟩ => ?_⟩
  subst eH hx
  rw [e2] at he
  cases he
  have s2 : Sm Ps H1 (upd H1 T (.tup [x.2.1, x.2.2])) := .new hT
  exact ⟨s2, k1.new hT, .tup upd_same (.cons (Rp.mono k1 s2 _ _ (Rp.mono k s1 _ _ rk)) (.cons (Rp.mono k1 s2 _ _ (Rp.mono k s1 _ _ rv)) .nil))⟩
theorem pid_keys (hw : X.w = Wd.w) (h : PE X e (tD Ps E)) : PI X tg e (tI Ps (o1 iKyD E)) := pi_imp (pi_keysD2 hw h) fun σ H R ⟨ρ, ds, k, rel, e, q⟩ => by
  obtain ⟨d, e1, e⟩ := Option.bind_eq_some_iff.mp e
  refine ⟨ρ, d, k, rel, e1, fun v H1 s1 k1 r1 => ?_⟩
  cases d with
  | dict kvs =>
    obtain ⟨hk, rfl⟩ := ifs e
    obtain ⟨d, o, xs, rfl, h1, h2⟩ := dict_kd r1 hk
    exact ⟨_, _, _, rfl, h1, q _ _ s1 k1 (itok_keys k1 h1 h2)⟩
  | _ => cases e
theorem pid_items {elts : List Expr} {kk : Nat} {tpos : Pos} (hw : X.w = Wd.w) (h : PE X e (tD Ps E)) (hbase : attributeBase e "items" X.env (eval e X.env) = eval e X.env := by rfl) (hline : (apos.endLine == cpos.line) = true := by rfl) :
    PI X (.Tuple elts kk tpos) (.Call (.Attribute e "items" apos) [] [] cpos) (tI Ps (o1 iItD E)) := pi_imp (pi_itemsD2 hw h hbase hline) fun σ H R ⟨ρ, ds, k, rel, e, q⟩ => by
  obtain ⟨d, e1, e⟩ := Option.bind_eq_some_iff.mp e
  refine ⟨ρ, d, k, rel, e1, fun v H1 s1 k1 r1 => ?_⟩
  cases d with
  | dict kvs =>
    obtain ⟨hk, rfl⟩ := ifs e
    obtain ⟨d, o, xs, rfl, h1, h2⟩ := dict_kd r1 hk
    exact ⟨_, _, _, rfl, h1, q _ _ s1 k1 (itok_items k1 h1 h2)⟩
  | _ => cases e
/-- len of a dict -/
def lenDD : PyData → Option PyData
  | .dict kvs => if kvs.all (fun p => isKd p.1) = true then some (.int kvs.length) else none
  | _ => none
theorem pd_lend {p : Pos} (hw : X.w = Wd.w) (hg : Gl X "len") (hm : X.mg "len" = none) (ha : PE X e (tD Ps E)) (he : starEach [e] X.env = (false, eval e X.env) :: starEach [] X.env := by rfl) (hv : bootBuiltins "len" = some (.builtin "len") := by decide +kernel) :
    PE X (.Call (.Name "len" p) [e] [] pos) (tD Ps (o1 lenDD E)) :=
  pe_imp (pe_callB (call_len_dd hw) hg hm hv (pa_cons ha pa_nil he) (he := he)) fun σ H Q ⟨ρ, d, k, rel, e, q⟩ => by
    obtain ⟨x, e1, e⟩ := Option.bind_eq_some_iff.mp e
    refine ⟨ρ, x, k, rel, e1, fun v H1 s1 k1 r1 => ?_⟩
    cases x with
    | dict kvs =>
      obtain ⟨hk, rfl⟩ := ifs e
      obtain ⟨d, o, xs, rfl, h1, h2⟩ := dict_kd r1 hk
      exact ⟨d, kvs, rfl, .inr ⟨xs, o, h1, h2⟩, q _ _ s1 k1 (.int _)⟩
    | _ => cases e
/-- list(d) -/
theorem call_list_dd (hw : X.w = Wd.w) (hc : X.calm = true) : CallR X (.type "list") (fun vs H Q => ∃ d o xs, vs = [V.ref d] ∧ H d = some (.frz o (DO Wd.w d xs)) ∧ ∀ p, H p = none → Q (.ref p) (upd H p (.lst (xs.map (·.2.1))))) := by
  intro pins s σ H vs us Q I r h
  obtain ⟨d, o, xs, rfl, hd, q⟩ := h
  obtain ⟨u, rfl, rx⟩ := r.one
  cases rx
  obtain ⟨hs, ho, hx, hl, es, ep, hdt, hsz, p⟩ := inv_frzD hw I hd
  refine PySem.W.kdl_call (kdl_raw hs hx hdt) (I.ok.hd hc) ho (by omega) fun h' tk acc' c' kp e it => ?_
  have rv : Vals (xs.map (·.2.1)) acc'.toList := by
    have g : ∀ {ys : List DEn} {l : List DictEntry}, Paired (EnR X.w) ys l → ∀ (m : List Value), m.length = l.length → (∀ (j : Nat) (v : Value), m[j]? = some v → ∃ en : DictEntry, l[j]? = some en ∧ v = en.key) → Vals (ys.map (·.2.1)) m := by
      intro ys l pp
      induction pp with
      | nil =>
        intro m hm _
        have : m = [] := List.length_eq_zero_iff.mp hm
        subst this
        exact .nil
      | @cons y en ys l r t ih =>
        intro m hm hall
        cases m with
        | nil => simp at hm
        | cons v m =>
          obtain ⟨en', h1, h2⟩ := hall 0 v rfl
          simp at h1
          subst h1 h2
          exact .cons r.2.1 (ih m (by simpa using hm) fun j v' hj => by
            obtain ⟨en', h1, h2⟩ := hall (j + 1) v' (by simpa using hj)
            exact ⟨en', by simpa using h1, h2⟩)
    refine g p acc'.toList (by simpa using it.1) fun j v hj => ?_
    obtain ⟨en, h1, h2⟩ := it.2 j v (by rw [← Array.getElem?_toList]; exact hj)
    exact ⟨en, by rw [Array.getElem?_toList]; exact h1, h2⟩
  refine ⟨.ref s.heap.objs.size, _, I.laid (t' := tk) (o := .lst (xs.map (·.2.1))) kp (Nat.le_refl _) ?_, rfl, q _ (I.hok.fresh (Nat.le_refl _))⟩
  exact ⟨by rw [List.length_map]; exact hl, acc'.toList, c', rv, by rw [Array.toArray_toList]; exact e⟩
def lstD : PyData → Option PyData
  | .dict kvs => if kvs.all (fun p => isKd p.1) = true then some (.list (kvs.map (·.1))) else none
  | _ => none
theorem RpD.keysA : ∀ {H : Hp} {kvs : List (PyData × PyData)} {xs : List DEn}, RpD H xs kvs → RpA H (xs.map (·.2.1)) (kvs.map (·.1))
  | _, [], _, h => by cases h; exact .nil
  | _, (k, v) :: kvs, _, h => by
    cases h with
    | cons h0 h1 h2 h3 => exact .cons h1 (RpD.keysA h3)
theorem pd_listd {p : Pos} (hw : X.w = Wd.w) (hc : X.calm = true) (hg : Gl X "list") (hm : X.mg "list" = none) (ha : PE X e (tD Ps E)) (he : starEach [e] X.env = (false, eval e X.env) :: starEach [] X.env := by rfl) (hv : bootBuiltins "list" = some (.type "list") := by decide +kernel) :
    PE X (.Call (.Name "list" p) [e] [] pos) (tD Ps (o1 lstD E)) :=
  pe_imp (pe_callTy (call_list_dd hw hc) hg hm hv (pa_cons ha pa_nil he) (he := he)) fun σ H Q ⟨ρ, d, k, rel, e, q⟩ => by
    obtain ⟨x, e1, e⟩ := Option.bind_eq_some_iff.mp e
    refine ⟨ρ, x, k, rel, e1, fun v H1 s1 k1 r1 => ?_⟩
    cases x with
    | dict kvs =>
      obtain ⟨hk, rfl⟩ := ifs e
      obtain ⟨d, o, xs, rfl, h1, h2⟩ := dict_kd r1 hk
      exact ⟨d, o, xs, rfl, h1, fun p hp => (q.later s1).lst k1 h2.keysA hp⟩
    | _ => cases e
/-- {k: v} -/
def d1D (k v : PyData) : Option PyData := if isKd k = true ∧ (nk k).depth ≤ 8 ∧ notL v = true then some (.dict [(k, v)]) else none
theorem lock_fresh {pins : List (Addr × Obj)} {σ : L2.St} {H H0 : Hp} {s : Shared} {p : Addr} {kvs : List (PyData × PyData)} {Q : VK} (I : Inv X pins σ H s) (k : Ok Ps H) (h0 : H0 p = none) (sm : Sm Ps H0 (fun b => if b = p then none else H b)) (hd : Dd H p kvs) (hp : p ∉ Ps)
    (q : Kd Ps H0 (.dict kvs) Q) : ∃ H', Inv X pins σ H' s ∧ Q (.ref p) H' := by
  obtain ⟨xs, h1, h2⟩ := hd
  obtain ⟨od, I1⟩ := I.lock h1 (by exact True.intro)
  refine ⟨_, I1, q _ _ (fun b o nb e => ?_) (k.put h1 nt_do nc_do) (.dct upd_same (RpD.keep (fun a o im e => ?_) _ _ h2))⟩
  · have hb : b ≠ p := fun z => by rw [z, h0] at e; cases e
    rw [upd_ne hb]
    have this : (if b = p then none else H b) = some o := sm b o nb e
    rw [if_neg hb] at this
    exact this
  · rw [upd_ne (ne_of e h1 im.noE)]
    exact e
theorem pd_dict1 {kx vx : Expr} {Ek Ev : DEnv → Option PyData} (hw : X.w = Wd.w) (hu : X.A.units + 8 < cLine) (hk : PE X kx (tD Ps Ek)) (hv : PE X vx (tD Ps Ev)) : PE X (.Dict [some kx] [vx] pos) (tD Ps (o2 d1D Ek Ev)) := by
  refine ⟨fun pins s σ H Q I ⟨ρ, d, k, rel, e, q⟩ => ?_⟩
  obtain ⟨kd, e1, e⟩ := Option.bind_eq_some_iff.mp e
  obtain ⟨vd, e2, e⟩ := Option.bind_eq_some_iff.mp e
  obtain ⟨⟨hkd, hdp, hnl⟩, rfl⟩ := ifs e
  have hn := I.hok.fresh (Nat.le_refl s.heap.objs.size)
  have hsys : (s.heap.objs.size == sysModules) = false := beq_eq_false_iff_ne.mpr (Ne.symm (Nat.ne_of_lt I.big))
  have I1 := I.laid (a := s.heap.objs.size) (o := DO X.w s.heap.objs.size []) (h' := s.heap.push { cls := .type "dict", data := .dict #[] }) (t' := s.toks) (fun _ _ q => Heap.get?_push_of_some _ q) (Nat.le_refl _)
    (do_mk hsys (Nat.zero_le _) List.nodup_nil (Heap.get?_push_size _ rfl) ⟨rfl, rfl, rfl⟩ rfl .nil)
  generalize hD : s.heap.objs.size = D at *
  have k0 := k.new (o := DO X.w D []) hn
  have s0 : Sm Ps H (upd H D (DO X.w D [])) := .new hn
  rw [arm_eval_Dict]
  have hnP : D ∉ Ps := fun z => by
    obtain ⟨ps, h, _⟩ := k.1 D z
    rw [hn] at h
    cases h
  refine (zip_pairTrees [some kx] [vx] X.env pos rfl rfl) ▸ ?_
  rw [dictDisplay_pairs (pairTrees [some kx] [vx] X.env pos) (by
    intro z
    have := pairTrees_length [some kx] [vx] X.env pos rfl rfl
    rw [z] at this
    simp at this) (by rw [pairTrees_length [some kx] [vx] X.env pos rfl rfl]; simp)]
  refine wpAny_bind (wpAny_standAt (wpAny_bind ?_))
  unfold subDict
  refine wpAny_bind (wpAny_alloc ?_)
  refine wpAny_bind (wpAny_holding ?_)
  rw [if_pos (by rw [pairTrees_length [some kx] [vx] X.env pos rfl rfl]; simp)]
  rw [hD]
  refine wpAny_bind (wpAny_mono (Q := fun (vs : List (Value × Value)) s' => ∃ (u r : Value) (x y : V) (H' : Hp), vs = [(u, r)] ∧ Inv X pins σ H' s' ∧ RelV x u ∧ RelV y r ∧ Sm Ps (upd H D (DO X.w D [])) H' ∧ Ok Ps H' ∧ Rp H' x kd ∧ Rp H' y vd) (pairTrees_cons_walk ?_) (fun vs s2 hvs => ?_) fun _ _ e => e)
  · refine thn (hk.run pins _ σ _ (fun v H' => Sm Ps (upd H D (DO X.w D [])) H' ∧ Ok Ps H' ∧ Rp H' v kd) I1 ⟨ρ, kd, k0, rel.mono k s0, e1, fun v1 H1 s1 k1 r1 => ⟨s1, k1, r1⟩⟩) fun u s1 ⟨x, H1, I2, rx, s1', k1, r1⟩ => ?_
    refine thn (hv.run pins _ σ _ (fun v H' => Sm Ps H1 H' ∧ Ok Ps H' ∧ Rp H' v vd) I2 ⟨ρ, vd, k1, (rel.mono k s0).mono k0 s1', e2, fun v2 H2 s2 k2 r2 => ⟨s2, k2, r2⟩⟩) fun u2 s2 ⟨y, H2, I3, ry, s2', k2, r2⟩ => ?_
    exact pairTrees_nil_walk ⟨u, u2, x, y, H2, rfl, I3, rx, ry, s1'.trans s2', k2, Rp.mono k1 s2' _ _ r1, r2⟩
  · obtain ⟨u, r, x, y, H2, rfl, I2, rx, ry, s2', k2, r1, r2⟩ := hvs
    refine wpAny_holding ?_
    have eD : H2 D = some (DO X.w D []) := s2' D _ hnP upd_same
    rw [List.forIn_cons]
    have hn1 : notL kd = true := by
      cases kd with
      | list ds => simp [isKd] at hkd
      | _ => rfl
    refine wpAny_bind (wpAny_bind (wpAny_bind (dm_set I2 hu eD (by exact RpD.nil) (by rw [sizeLine_eq]; decide) hkd hdp (r1.im hn1) rx ry fun s3 I3 => wpAny_pure ?_)))
    refine wpAny_pure (wpAny_pure (wpAny_pure (wpAny_pure ?_)))
    have kp : ∀ a o, Imm o → H2 a = some o → (upd H2 D (DO X.w D (xput [] (nk kd) x y))) a = some o := fun a o im e => by
      rw [upd_ne (ne_of e eD im.noE)]; exact e
    have := lock_fresh (Ps := Ps) (H0 := H) (kvs := [(kd, vd)]) (Q := Q) I3 (k2.put eD nt_do nc_do) hn (fun b o nb e => by
      have hb : b ≠ D := fun z => by rw [z, hn] at e; cases e
      show (if b = D then none else _) = _
      rw [if_neg hb, upd_ne hb]
      exact s2' b o nb (s0 b o nb e)) ⟨_, by rw [← hw]; exact upd_same, RpD.keep kp _ _ (de_put (xs := []) (kvs := []) .nil hkd hdp (r1.im hn1) (r2.im hnl))⟩ hnP q
    obtain ⟨H', I', q'⟩ := this
    exact ⟨.ref D, H', I', rfl, q'⟩
end
end LL
set_option Elab.async false
set_option linter.all false
set_option maxRecDepth 100000
set_option maxHeartbeats 2000000
set_option autoImplicit false
/-! Dict comprehensions by data. -/
namespace LL
open PySem PySem.Spec PyProof.Rows L2
variable [Wd]
open Sem (wp)
section
variable {X : Cx}
/-- {k: v for target in iter if ..}, keys ints or texts: D the new dict -/
def tDc2 (w : World) (wi : TI) (g : TG) (tt : TT) (tk tv : TE) (vs : List Nat) : TE := fun σ H Q => wi σ H fun J H1 => ∀ D, H1 D = none → ∃ W : Nat → Nat → Hp → Prop, (∃ m, W 0 m (upd H1 D (DO w D []))) ∧ ∀ i m H, W i m H →
  (J.stop i H ∧ Q (.ref D) H) ∨ (J.go i H ∧ ∃ Nx : Hp → Prop, (∀ H', Nx H' → ∃ m', m' < m ∧ W (i + 1) m' H') ∧ ∀ x H', J.yld i H x H' → g x (L2.wipe σ vs) H' fun σ2 H2 => L2.wipe σ2 vs = L2.wipe σ vs ∧ tt σ2 H2 fun b H3 =>
    if b = true then tk σ2 H3 fun y H4 => tv σ2 H4 fun z H5 => ∃ xs kvs k, H5 D = some (DO w D xs) ∧ RpD H5 xs kvs ∧ xs.length < sizeLine ∧ isKd k = true ∧ (nk k).depth ≤ 8 ∧ Rt H5 y k ∧ Nx (upd H5 D (DO w D (xput xs (nk k) y z))) else Nx H3)
theorem dc_core2 {pins : List (Addr × Obj)} {s : Shared} {σ : L2.St} {H : Hp} {Q : VK} {kx vx tg iter : Expr} {ifs : List Expr} {scope : Scope} {own : List (Str × Nat)} {pos pos' : Pos} {wi : TI} {g : TG} {tt : TT} {tk tv : TE} {use : Option (Value → Sem Unit)} {Qf : Value → Shared → Prop}
    (hw : X.w = Wd.w) (hu : X.A.units + 8 < cLine) (hc : X.calm = true) (hN : X.N.Nodup) (I : Inv X pins σ H s) (hi : PI X tg iter wi) (ok : BlkOk X.N X.env.scope scope own)
    (hg : ∀ (s : Shared) (H : Hp) (C : Addr) (cl : List (Str × Addr)) (fp : List Addr), PG (X.blk s H scope (compEnvC scope cl C X.env) fp) tg g) (ht : ∀ (s : Shared) (H : Hp) (C : Addr) (cl : List (Str × Addr)) (fp : List Addr), PTs (X.blk s H scope (compEnvC scope cl C X.env) fp) ifs tt)
    (hk : ∀ (s : Shared) (H : Hp) (C : Addr) (cl : List (Str × Addr)) (fp : List Addr), PE (X.blk s H scope (compEnvC scope cl C X.env) fp) kx tk)
    (he : ∀ (s : Shared) (H : Hp) (C : Addr) (cl : List (Str × Addr)) (fp : List Addr), PE (X.blk s H scope (compEnvC scope cl C X.env) fp) vx tv) (hs : ∀ x, foldedSetIterable iter X.env x = pure x)
    (h : tDc2 X.w wi g tt tk tv (own.map (·.2)) σ H Q)
    (hRR : ∀ D C s' m H', Inv X pins σ H' s' → Q (.ref D) H' → s'.heap.Ns C m → FpOk X pins H' C → compPost (model X.prog X.w) X.A X.xe use Qf (.ref D) C (.ok .next) s') :
    wpAny (model X.prog X.w) X.A (comprehension (.DictComp kx vx [⟨tg, iter, ifs, 0⟩] scope pos) scope X.env pos' newDict false (eval iter X.env) use) Qf X.xe s := by
  have hfree : ∀ y ∈ scope.names, y.2 = .free → ∃ c, X.env.cells.lookup y.1 = some c := fun y hy e => by
    rcases ok.free y hy e with k | k
    · exact I.ok.has _ (.inl k)
    · exact I.ok.has _ (.inr k)
  refine wpAny_comprehension_free (use := use) rfl hs (closure_ok hfree) ok.kind (fun y hy e => by rw [ok.uniq y hy, e])
    (thn (hi.run pins s σ H _ I h) fun xv s1 hx => thn hx fun itv s2 h2 => ?_)
  obtain ⟨it, fp, tn, J, H2, e, I2, T, st2, f2, q⟩ := h2
  subst e
  refine wpAny_newObj_type (newEnv_comp ?_)
  generalize hD : s2.heap.objs.size = D
  have hDn : H2 D = none := I2.hok.fresh (Nat.le_of_eq hD)
  obtain ⟨W, ⟨m0, w0⟩, turn⟩ := q D hDn
  -- the new list
  generalize hs3 : ({ s2 with heap := s2.heap.push { cls := .type "dict", data := .dict #[] } } : Shared) = s3
  have I3 : Inv X pins σ (upd H2 D (DO X.w D [])) s3 := by
    rw [← hs3]
    refine I2.laid (t' := s2.toks) (fun b o e => Heap.get?_push_of_some _ e) (Nat.le_of_eq hD) ?_
    rw [← hD]
    exact do_mk (beq_eq_false_iff_ne.mpr (Ne.symm (Nat.ne_of_lt I2.big))) (Nat.zero_le _) List.nodup_nil (Heap.get?_push_size _ rfl) ⟨rfl, rfl, rfl⟩ rfl .nil
  have h3 : s3.heap = s2.heap.push { cls := .type "dict", data := .dict #[] } := by rw [← hs3]
  have sz : ∀ b ∈ fp, b < s2.heap.objs.size := fun b hb => by
    obtain ⟨o, e, _⟩ := T.obj _ _ st2 b hb
    exact Heap.lt_size e
  have f3 : ∀ b ∈ fp, FpOk X pins (upd H2 D (DO X.w D [])) b ∧ b < s3.heap.objs.size := fun b hb => by
    have hlt := sz b hb
    refine ⟨⟨?_, (f2 b hb).2⟩, by rw [h3, Heap.size_push]; exact Nat.lt_succ_of_lt hlt⟩
    rw [upd_ne (by rw [← hD]; exact Nat.ne_of_lt hlt)]
    exact (f2 b hb).1
  have st3 : tn 0 s3.heap := T.keep _ _ _ st2 fun b _ o e => by rw [h3]; exact Heap.get?_push_of_some _ e
  have I4 := block_start I3 ok hN f3
  have pg := hg s3 (upd H2 D (DO X.w D [])) s3.heap.objs.size (cellsFrom (s3.heap.objs.size + 1) scope.names (cloFrom X.env.cells scope.names [])) fp
  have pt := ht s3 (upd H2 D (DO X.w D [])) s3.heap.objs.size (cellsFrom (s3.heap.objs.size + 1) scope.names (cloFrom X.env.cells scope.names [])) fp
  have pk := hk s3 (upd H2 D (DO X.w D [])) s3.heap.objs.size (cellsFrom (s3.heap.objs.size + 1) scope.names (cloFrom X.env.cells scope.names [])) fp
  have pe := he s3 (upd H2 D (DO X.w D [])) s3.heap.objs.size (cellsFrom (s3.heap.objs.size + 1) scope.names (cloFrom X.env.cells scope.names [])) fp
  show codeAny _ _ (.compStart (.DictComp kx vx [⟨tg, iter, ifs, 0⟩] scope pos) 0 (.ref it) (.ref D) (compEnvC scope (cellsFrom (s3.heap.objs.size + 1) scope.names (cloFrom X.env.cells scope.names [])) s3.heap.objs.size X.env)) (compPost (model X.prog X.w) X.A X.xe use Qf (.ref D) s3.heap.objs.size) { s3 with heap := pushCells (s3.heap.push { cls := .type "dict", data := .dict #[] }) scope.names }
  have nfp : ∀ b ∈ fp, (upd H2 D (DO X.w D [])) b = none := fun b hb => (f3 b hb).1.1
  generalize hce : compEnvC scope (cellsFrom (s3.heap.objs.size + 1) scope.names (cloFrom X.env.cells scope.names [])) s3.heap.objs.size X.env = ce at I4 pg pt pk pe ⊢
  have cL : ce.locals = s3.heap.objs.size := by subst hce; rfl
  generalize hH3 : upd H2 D (DO X.w D []) = H3 at I3 I4 pg pt pk pe w0 nfp f3
  generalize hs4 : ({ s3 with heap := pushCells (s3.heap.push { cls := .type "dict", data := .dict #[] }) scope.names } : Shared) = s4 at I4 ⊢
  have st4 : tn 0 s4.heap := T.keep _ _ _ st3 fun b _ o e => by rw [← hs4]; exact pushCells_keeps _ _ _ _ (Heap.get?_push_of_some _ e)
  have stat : ∀ {σ' : L2.St} {H' : Hp} {s' : Shared}, Inv (X.blk s3 H3 scope ce fp) [] σ' H' s' → (∀ b ∈ fp, H' b = none) → ∀ b ∈ fp, FpOk (X.blk s3 H3 scope ce fp) [] H' b := fun {σ' H' s'} I' hn b hb =>
    ⟨hn b hb, (I'.ok.exf b hb).1, I'.ok.exfs b hb, .inl hb, fun x c e => (I'.ok.exf b hb).2 x c e, fun p hp => absurd (show p ∈ ([] : List (Addr × Obj)) ++ [] from hp) (by simp)⟩
  have loop : codeAny (model X.prog X.w) X.A (.compLoop (.DictComp kx vx [⟨tg, iter, ifs, 0⟩] scope pos) 0 (.ref it) (.ref D) ce) (compPost (model X.prog X.w) X.A X.xe use Qf (.ref D) s3.heap.objs.size) s4 := by
    refine compLoop_anyD (fun n s' => ∃ i H', Inv (X.blk s3 H3 scope ce fp) [] (L2.wipe σ (own.map (·.2))) H' s' ∧ tn i s'.heap ∧ (∀ b ∈ fp, H' b = none) ∧ W i n H') ?_ m0 ⟨0, H3, I4, st4, nfp, w0⟩
    rintro n s5 ⟨i, H5, I5, st5, n5, w5⟩
    rcases turn i n H5 w5 with ⟨stop, qq⟩ | ⟨go, Nx, hNx, step⟩
    · have td := T.done (X.blk s3 H3 scope ce fp) rfl rfl rfl hc i [] s5 _ H5 (fun _ _ => False) I5 (stat I5 n5) st5 stop
      refine thnF td fun r s6 ⟨hr, I6⟩ => ?_
      subst hr
      -- back in the def's context
      have I7 : Inv X pins σ H5 s6 := I3.call' (ch := fp) I6.os I6.base I6.hok I6.bare fun b hb => ⟨(f3 b hb).1.2.2.2.1, (f3 b hb).1.2.1, (f3 b hb).1.2.2.2.2.1, (f3 b hb).1.2.2.2.2.2⟩
      have nC : H5 s3.heap.objs.size = none := by
        have z : H5 ce.locals = none := I6.free
        rw [cL] at z
        exact z
      obtain ⟨m, hn, _⟩ := I6.loc
      have hn : s6.heap.Ns ce.locals m := hn
      rw [cL] at hn
      exact hRR D s3.heap.objs.size s6 m H5 I7 qq hn (I3.fpOk (Nat.le_refl _) nC)
    · have ti := T.item (X.blk s3 H3 scope ce fp) rfl rfl rfl hc i [] s5 _ H5 (fun _ _ => False) I5 (stat I5 n5) st5 go
      refine thnF ti fun r s6 ⟨u, hr, h6⟩ => ?_
      subst hr
      refine thnF h6 fun _ s7 ⟨x, H7, I7, r7, y7, st7, n7⟩ => ?_
      have I7' := I7.pinned (stat I7 n7) (T.obj _ _ st7)
      refine thnF (pg.run _ s7 _ H7 x u _ I7' r7 (step x H7 y7)) fun _ s8 ⟨σ8, H8, I8, hw8, q8⟩ => ?_
      refine thnF (pt.run _ s8 σ8 H8 _ I8 q8) fun b s9 ⟨H9, I9, q9⟩ => ?_
      -- the turn's end
      have fin : ∀ {s' : Shared} {H' : Hp}, Inv (X.blk s3 H3 scope ce fp) ([] ++ pinsAt fp s7.heap) σ8 H' s' → Nx H' → ∃ m, m < n ∧ ∃ i H', Inv (X.blk s3 H3 scope ce fp) [] (L2.wipe σ (own.map (·.2))) H' s' ∧ tn i s'.heap ∧ (∀ b ∈ fp, H' b = none) ∧ W i m H' := fun {s' H'} I' nx => by
        obtain ⟨m', hm, w'⟩ := hNx H' nx
        have pin' : ∀ b ∈ fp, ∀ o, s7.heap.get? b = some o → s'.heap.get? b = some o ∧ H' b = none := fun b hb o e =>
          let z := I'.pin (b, o) (List.mem_append_right _ (List.mem_append_right _ (mem_pinsAt hb e)))
          ⟨z.1, z.2.1⟩
        have hl : (L2.wipe σ (own.map (·.2))).length = σ8.length := by rw [← hw8, wipe_length]
        refine ⟨m', hm, i + 1, H', (I'.unpinned (pins := [])).weak hl (fun j v e => ?_), T.keep _ _ _ st7 fun b hb o e => (pin' b hb o e).1, fun b hb => ?_, w'⟩
        · rw [← hw8] at e
          exact (wipe_some e).1
        · obtain ⟨o, e, _⟩ := T.obj _ _ st7 b hb
          exact (pin' b hb o e).2
      cases b with
      | false =>
        simp only [Bool.false_eq_true, if_false] at q9 ⊢
        exact fin I9 q9
      | true =>
        simp only [if_true] at q9 ⊢
        refine thnF (pk.run _ s9 σ8 H9 _ I9 q9) fun z s10 ⟨yk, H10, I10, r10, q10⟩ => ?_
        refine thnF (pe.run _ s10 σ8 H10 _ I10 q10) fun z2 s11 ⟨yv, H11, I11, r11, xs11, kvs, k, hD11, hk11, hz11, kd11, dep11, rk11, nx⟩ => ?_
        exact dm_set (X := X.blk s3 H3 scope ce fp) I11 hu hD11 hk11 hz11 kd11 dep11 rk11 r10 r11 fun s12 I12 => fin I12 nx
  exact codeAny_compStart_dict loop (T.self X.A 0 _ _ _ st4 loop)
/-- as a value -/
theorem pe_dc2 {kx vx tg iter : Expr} {ifs : List Expr} {scope : Scope} {own : List (Str × Nat)} {pos : Pos} {wi : TI} {g : TG} {tt : TT} {tk tv : TE} (hw : X.w = Wd.w) (hu : X.A.units + 8 < cLine) (hc : X.calm = true) (hN : X.N.Nodup) (hi : PI X tg iter wi) (ok : BlkOk X.N X.env.scope scope own)
    (hg : ∀ (s : Shared) (H : Hp) (C : Addr) (cl : List (Str × Addr)) (fp : List Addr), PG (X.blk s H scope (compEnvC scope cl C X.env) fp) tg g) (ht : ∀ (s : Shared) (H : Hp) (C : Addr) (cl : List (Str × Addr)) (fp : List Addr), PTs (X.blk s H scope (compEnvC scope cl C X.env) fp) ifs tt)
    (hk : ∀ (s : Shared) (H : Hp) (C : Addr) (cl : List (Str × Addr)) (fp : List Addr), PE (X.blk s H scope (compEnvC scope cl C X.env) fp) kx tk)
    (he : ∀ (s : Shared) (H : Hp) (C : Addr) (cl : List (Str × Addr)) (fp : List Addr), PE (X.blk s H scope (compEnvC scope cl C X.env) fp) vx tv) (hs : ∀ x, foldedSetIterable iter X.env x = pure x := by intro _; rfl) :
    PE X (.DictComp kx vx [⟨tg, iter, ifs, 0⟩] scope pos) (tDc2 X.w wi g tt tk tv (own.map (·.2))) := by
  refine ⟨fun pins s σ H Q I h => ?_⟩
  rw [arm_eval_DictComp]
  refine dc_core2 hw hu hc hN I hi ok hg ht hk he hs h fun D C s' m H' I' q hn f => ⟨m, hn, fun h'' sb => ?_⟩
  obtain ⟨f0, f1, f2, f3, f4, f5⟩ := f
  exact ⟨.ref D, H', I'.turned (t' := s'.toks) (fun b o hb e => (sb.2 b hb).trans e) f0 f1 f3 f4 f5, rfl, q⟩

def dcD (f : PyData → Option (PyData × PyData)) : List PyData → List (PyData × PyData) → Option (List (PyData × PyData))
  | [], acc => some acc
  | d :: r, acc => (f d).bind fun p => if isKd p.1 = true ∧ (nk p.1).depth ≤ 8 ∧ notL p.2 = true ∧ acc.length < sizeLine then dcD f r (dputD acc p.1 p.2) else none
def oDc (I : DEnv → Option (List PyData)) (vs : List Nat) (G : PyData → DEnv → Option DEnv) (Ek Ev : DEnv → Option PyData) : DEnv → Option PyData := fun ρ =>
  (I ρ).bind fun ds => (dcD (fun d => (G d (wipeD ρ vs)).bind fun ρ1 => (Ek ρ1).bind fun k => (Ev ρ1).bind fun v => some (k, v)) ds []).bind fun kvs => some (.dict kvs)

/-- what the value names is locked behind the expression -/
def tLk (t : TE) : TE := fun σ H Q => t σ H fun v H' => ∃ d u, H' d = some u ∧ Mut (some u) ∧ ∀ od, Q v (upd H' d (.frz od u))
theorem pe_lk {e : Expr} {t : TE} (h : PE X e t) : PE X e (tLk t) := ⟨fun pins s σ H Q I q => thn (h.run pins s σ H _ I q) fun v s1 ⟨x, H1, I1, rx, d, u, hd, mu, q1⟩ => by
  obtain ⟨od, I2⟩ := I1.lock hd mu
  exact ⟨x, _, I2, rx, q1 od⟩⟩
theorem dc_imp {Ps : List Addr} {own : List (Str × Nat)} {I : DEnv → Option (List PyData)} {g : TG} {G : PyData → DEnv → Option DEnv} {Ek Ev : DEnv → Option PyData} (hw : X.w = Wd.w) (hG : OwnG g (own.map (·.2)) Ps G) (σ : L2.St) (H : Hp) (Q : VK) (h : tD Ps (oDc I (own.map (·.2)) G Ek Ev) σ H Q) :
    tLk (tDc2 X.w (tI Ps I) g tYes (tD Ps Ek) (tD Ps Ev) (own.map (·.2))) σ H Q := by
    obtain ⟨ρ, d, k, rel, e, q⟩ := h
    obtain ⟨ds, e1, e⟩ := Option.bind_eq_some_iff.mp e
    obtain ⟨kvs, e2, e⟩ := Option.bind_eq_some_iff.mp e
    cases e
    refine ⟨ρ, ds, k, rel, e1, fun J H1 s1 k1 iok D hD => ?_⟩
    generalize hf : (fun d => (G d (wipeD ρ (own.map (·.2)))).bind fun ρ1 => (Ek ρ1).bind fun k => (Ev ρ1).bind fun v => some (k, v)) = f at e2
    refine ⟨fun i m H => m = ds.length - i ∧ i ≤ ds.length ∧ Sm Ps H1 H ∧ Ok Ps H ∧ ∃ xs acc, H D = some (DO X.w D xs) ∧ RpD H xs acc ∧ dcD f (ds.drop i) acc = some kvs,
      ⟨ds.length, rfl, Nat.zero_le _, .new hD, k1.new hD, [], [], upd_same, .nil, e2⟩, ?_⟩
    rintro i m H2 ⟨rfl, hi, s2, k2, xs, acc, eD, ra, e3⟩
    obtain ⟨go, stop⟩ := iok i H2 s2 k2
    by_cases hlt : i < ds.length
    · rw [List.drop_eq_getElem_cons hlt] at e3
      obtain ⟨p, e5, e6⟩ := Option.bind_eq_some_iff.mp e3
      rw [← hf] at e5
      obtain ⟨ρ1, e9, e10⟩ := Option.bind_eq_some_iff.mp e5
      obtain ⟨kd, e11, e12⟩ := Option.bind_eq_some_iff.mp e10
      obtain ⟨vd, e13, e14⟩ := Option.bind_eq_some_iff.mp e12
      cases e14
      split at e6
      case isFalse => cases e6
      rename_i hcond
      obtain ⟨hkd, hdp, hnl, hsz⟩ := hcond
      obtain ⟨g1, g2⟩ := go _ (List.getElem?_eq_getElem hlt)
      refine .inr ⟨g1, fun H => i + 1 ≤ ds.length ∧ Sm Ps H1 H ∧ Ok Ps H ∧ ∃ xs acc, H D = some (DO X.w D xs) ∧ RpD H xs acc ∧ dcD f (ds.drop (i + 1)) acc = some kvs, fun H' n => ⟨ds.length - (i + 1), by omega, rfl, n.1, n.2⟩, fun x H' y => ?_⟩
      obtain ⟨s3, k3, rx⟩ := g2 x H' y
      refine hG _ _ _ _ _ _ _ k3 rx.up (((rel.mono k s1).mono k1 s2).mono k2 s3 |>.wipe _) e9 fun σ4 H4 s4 k4 rel4 w4 => ⟨?_, ?_⟩
      · rw [w4]
        exact wipe_wipe _ _
      · unfold tYes
        dsimp only
        rw [if_pos rfl]
        refine ⟨ρ1, kd, k4, rel4, e11, fun v5 H5 s5 k5 r5 => ⟨ρ1, vd, k5, rel4.mono k4 s5, e13, fun v6 H6 s6 k6 r6 => ?_⟩⟩
        have s26 := ((s3.trans s4).trans s5).trans s6
        have hnP : D ∉ Ps := k2.ne eD nt_do
        have eD6 : H6 D = some (DO X.w D xs) := s26 D _ hnP eD
        have ra6 := RpD.mono k2 s26 _ _ ra
        have hn1 : notL kd = true := by
          cases kd with
          | list ds => simp [isKd] at hkd
          | _ => rfl
        have r5' : Rt H6 v5 kd := Rp.mono k5 s6 _ _ (r5.im hn1)
        have kp : ∀ a o, Imm o → H6 a = some o → (upd H6 D (DO X.w D (xput xs (nk kd) v5 v6))) a = some o := fun a o im e => by
          rw [upd_ne (ne_of e eD6 im.noE)]; exact e
        refine ⟨xs, acc, kd, eD6, ra6, by rw [ra6.length]; exact hsz, hkd, hdp, r5', hlt, fun b o nb eb => ?_, k6.put eD6 nt_do nc_do, _, _, upd_same, RpD.keep kp _ _ (de_put ra6 hkd hdp r5' (r6.im hnl)), e6⟩
        rw [upd_ne (ne_of_none eb hD)]
        exact (s2.trans s26) b o nb eb
    · have hi' : i = ds.length := by omega
      subst hi'
      rw [List.drop_length] at e3
      cases e3
      refine .inl ⟨stop (Nat.le_refl _), D, _, eD, True.intro, fun od => ?_⟩
      refine q _ _ (fun b o nb e => ?_) (k2.put eD nt_do nc_do) (.dct (by rw [← hw]; exact upd_same) (RpD.keep (fun a o im e => ?_) _ _ ra))
      · have hb : b ≠ D := fun z => by
          subst z
          have := s1 b o nb e
          rw [hD] at this
          cases this
        rw [upd_ne hb]
        exact (s1.trans s2) b o nb e
      · rw [upd_ne (ne_of e eD im.noE)]
        exact e
theorem pd_dc {Ps : List Addr} {kx vx tg iter : Expr} {scope : Scope} {own : List (Str × Nat)} {pos : Pos} {I : DEnv → Option (List PyData)} {g : TG} {G : PyData → DEnv → Option DEnv} {Ek Ev : DEnv → Option PyData} (hw : X.w = Wd.w) (hu : X.A.units + 8 < cLine) (hc : X.calm = true) (hN : X.N.Nodup) (hi : PI X tg iter (tI Ps I)) (ok : BlkOk X.N X.env.scope scope own)
    (hg : ∀ (s : Shared) (H : Hp) (C : Addr) (cl : List (Str × Addr)) (fp : List Addr), PG (X.blk s H scope (compEnvC scope cl C X.env) fp) tg g) (hG : OwnG g (own.map (·.2)) Ps G)
    (hk : ∀ (s : Shared) (H : Hp) (C : Addr) (cl : List (Str × Addr)) (fp : List Addr), PE (X.blk s H scope (compEnvC scope cl C X.env) fp) kx (tD Ps Ek))
    (he : ∀ (s : Shared) (H : Hp) (C : Addr) (cl : List (Str × Addr)) (fp : List Addr), PE (X.blk s H scope (compEnvC scope cl C X.env) fp) vx (tD Ps Ev)) (hs : ∀ x, foldedSetIterable iter X.env x = pure x := by intro _; rfl) :
    PE X (.DictComp kx vx [⟨tg, iter, [], 0⟩] scope pos) (tD Ps (oDc I (own.map (·.2)) G Ek Ev)) :=
  pe_imp (pe_lk (pe_dc2 hw hu hc hN hi ok hg (fun _ _ _ _ _ => pts_nil) hk he hs)) (dc_imp hw hG)
/-- name = {..} on one line, the name a local; the dict stays as it is from here on -/
theorem ps_setDc2 {i : Nat} {y : Str} {py : Pos} {kx vx tg iter : Expr} {ifs : List Expr} {scope : Scope} {own : List (Str × Nat)} {pos spos : Pos} {wi : TI} {g : TG} {tt : TT} {tk tv : TE} (hw : X.w = Wd.w) (hu : X.A.units + 8 < cLine) (hc : X.calm = true) (hN : X.N.Nodup) (hy : X.N[i]? = some y) (hyl : X.env.scope.names.lookup y = some .local)
    (hsw : swapsWith (.DictComp kx vx [⟨tg, iter, ifs, 0⟩] scope pos) (some (.Name y py)) spos.line X.env = pure true) (hi : PI X tg iter wi) (ok : BlkOk X.N X.env.scope scope own)
    (hg : ∀ (s : Shared) (H : Hp) (C : Addr) (cl : List (Str × Addr)) (fp : List Addr), PG (X.blk s H scope (compEnvC scope cl C X.env) fp) tg g) (ht : ∀ (s : Shared) (H : Hp) (C : Addr) (cl : List (Str × Addr)) (fp : List Addr), PTs (X.blk s H scope (compEnvC scope cl C X.env) fp) ifs tt)
    (hk : ∀ (s : Shared) (H : Hp) (C : Addr) (cl : List (Str × Addr)) (fp : List Addr), PE (X.blk s H scope (compEnvC scope cl C X.env) fp) kx tk)
    (he : ∀ (s : Shared) (H : Hp) (C : Addr) (cl : List (Str × Addr)) (fp : List Addr), PE (X.blk s H scope (compEnvC scope cl C X.env) fp) vx tv) (hs : ∀ x, foldedSetIterable iter X.env x = pure x := by intro _; rfl) :
    PS X (.Assign [.Name y py] (.DictComp kx vx [⟨tg, iter, ifs, 0⟩] scope pos) spos) (fun D σ H => tLk (tDc2 X.w wi g tt tk tv (own.map (·.2))) σ H (fun x H1 => gName i x σ H1 D.nx)) := by
  refine ⟨fun pins s σ H D I h => ?_⟩
  rw [exec_Assign_Name_used _ _ _ _ hsw]
  refine wpAny_bind (wpAny_standAt (wpAny_bind ?_))
  show wpAny _ X.A (do let _ ← comprehension (.DictComp kx vx [⟨tg, iter, ifs, 0⟩] scope pos) scope X.env (firstIterPos [⟨tg, iter, ifs, 0⟩] pos) newDict false (eval iter X.env) (some (assign (.Name y py) X.env))) _ _ s
  refine wpAny_bind (thn (dc_core2 (Qf := fun _ s' => SP X pins D .next s') hw hu hc hN I hi ok hg ht hk he hs h fun L C s' m H' I' q hn f => ?_) fun _ s' hq => wpAny_pure (wpAny_pure hq))
  show wpAny _ _ (assign (.Name y py) X.env (.ref L)) _ _ _
  refine wpAny_assign_Name (store_ok2 (v := V.ref L) I' hN hy (.inl hyl) rfl (fun s2 I2 ⟨a, sb, ha⟩ => ?_) (.inr hyl))
  obtain ⟨f0, f1, f2, f3, f4, f5⟩ := f
  have haC : C ≠ a := by
    rcases ha with z | z
    · rw [z]; exact f1
    · exact fun e => f4 y a z e.symm
  refine ⟨m, hn.sameBut sb haC, fun h3 sb3 => ?_⟩
  obtain ⟨d, u, hd, mu, q1⟩ := q
  obtain ⟨od, I3⟩ := (I2.turned (t' := s2.toks) (fun b o hb e => (sb3.2 b hb).trans e) f0 f1 f3 f4 f5).lock hd mu
  exact ⟨_, _, I3, q1 od⟩
theorem psd_setDc {Ps : List Addr} {i : Nat} {y : Str} {py : Pos} {kx vx tg iter : Expr} {scope : Scope} {own : List (Str × Nat)} {pos spos : Pos} {I : DEnv → Option (List PyData)} {g : TG} {G : PyData → DEnv → Option DEnv} {Ek Ev : DEnv → Option PyData} (hw : X.w = Wd.w) (hu : X.A.units + 8 < cLine) (hc : X.calm = true) (hN : X.N.Nodup) (hy : X.N[i]? = some y) (hyl : X.env.scope.names.lookup y = some .local)
    (hsw : swapsWith (.DictComp kx vx [⟨tg, iter, [], 0⟩] scope pos) (some (.Name y py)) spos.line X.env = pure true) (hi : PI X tg iter (tI Ps I)) (ok : BlkOk X.N X.env.scope scope own)
    (hg : ∀ (s : Shared) (H : Hp) (C : Addr) (cl : List (Str × Addr)) (fp : List Addr), PG (X.blk s H scope (compEnvC scope cl C X.env) fp) tg g) (hG : OwnG g (own.map (·.2)) Ps G)
    (hk : ∀ (s : Shared) (H : Hp) (C : Addr) (cl : List (Str × Addr)) (fp : List Addr), PE (X.blk s H scope (compEnvC scope cl C X.env) fp) kx (tD Ps Ek))
    (he : ∀ (s : Shared) (H : Hp) (C : Addr) (cl : List (Str × Addr)) (fp : List Addr), PE (X.blk s H scope (compEnvC scope cl C X.env) fp) vx (tD Ps Ev)) (hs : ∀ x, foldedSetIterable iter X.env x = pure x := by intro _; rfl) :
    PS X (.Assign [.Name y py] (.DictComp kx vx [⟨tg, iter, [], 0⟩] scope pos) spos) (tS Ps (sA (oDc I (own.map (·.2)) G Ek Ev) (gN i))) :=
  ps_imp (ps_setDc2 hw hu hc hN hy hyl hsw hi ok hg (fun _ _ _ _ _ => pts_nil) hk he hs) fun D σ H ⟨ρ, o, k, rel, e, q⟩ => by
    obtain ⟨d, e1, e⟩ := Option.bind_eq_some_iff.mp e
    obtain ⟨ρ', e2, e⟩ := Option.bind_eq_some_iff.mp e
    cases e
    cases e2
    exact dc_imp hw hG σ H (fun x H1 => gName i x σ H1 D.nx) ⟨ρ, d, k, rel, e1, fun v H1 s1 k1 r1 => q _ _ s1 k1 ((rel.mono k s1).set r1 i)⟩
end
end LL
set_option Elab.async false
set_option linter.all false
set_option maxRecDepth 100000
set_option maxHeartbeats 2000000
set_option autoImplicit false
/-! min(l, key=lambda x: ..) by data. -/
namespace LL
open PySem PySem.Spec PyProof.Rows L2
variable [Wd]
open Sem (wp)
section
variable {X : Cx} {pins : List (Addr × Obj)} {σ : L2.St} {H : Hp} {s : Shared} {A : Around}
/-- the call of a lambda with one parameter -/
theorem lam_run {f c' : Addr} {q : Str} {params : Arguments} {body : Expr} {scope : Scope} {pm ctv : Value} {x : Str} {u : Value} {v : V} {Q : VK} {k : Nat} {t : TE}
    (I : Inv X pins σ H s) (e0 : Env0 X.prog X.w X.K X.mg X.base A X.stack s H) (hr : Room (k + 1) A)
    (hf : s.heap.get? f = some (PySem.W.kla_obj "<lambda>" q params body scope [] pm c' ctv)) (hc : H c' = some (LamX.CodeO c' q)) (S : FnScope [x] [x] scope)
    (hb : BindsTo s (PySem.W.kla_fn "<lambda>" q params body scope [] pm (.ref c') ctv) ⟨[u], []⟩ [(x, u)]) (ru : RelV v u)
    (hbody : Room k (A.deeper (envOfC q scope s.heap.objs.size f (.ref c'))) → PE (cxOf C8.CX0 X.prog X.w X.K X.mg X.base [x] q scope f (.ref c') A X.stack s H (fun _ _ _ => False)) body t)
    (h : t [some v] H Q) :
    codeAny (model X.prog X.w) A (.call (.ref f) ⟨[u], []⟩) (CR C8.CX0 X.stack X.prog X.w H s Q (fun _ _ _ => False)) s := by
  obtain ⟨⟨oc, vs, tq, hoc, hdc, hvc⟩, _, _⟩ := I.hok c' _ hc
  have lim : s.heap.NoLimit := e0.mod.nolimit.keeps fun b o e => (e0.bs b o e).1
  refine PySem.W.kla_callFunE hr.depth hf rfl S.co S.gen rfl ⟨c', oc, vs, tq, rfl, hoc, hdc, hvc⟩ (hb _ _ _ _ ?_)
  have hkind : ∀ y ∈ [(x, u)], scope.names.lookup y.1 = some .local ∨ (scope.names.lookup y.1 = some .cell ∧ ((cellsFrom (s.heap.objs.size + 1) scope.names []).lookup y.1).isSome = true) := fun y hy => by
    have e : y = (x, u) := by simpa using hy
    subst e
    rcases S.par x (by simp) with q | q
    · exact .inl q
    · exact .inr ⟨q, PySem.W.cellsFrom_some _ _ _ (.inl q)⟩
  refine wpAny_newFunctionEnv_cells S.kind hkind fun env he s1 x1 => ?_
  subst he
  refine ⟨lim.keeps x1.toInCall.keep, ?_⟩
  have I1 : Inv (cxOf C8.CX0 X.prog X.w X.K X.mg X.base [x] q scope f (.ref c') A X.stack s H (fun _ _ _ => False)) [] (L2.start [x] [v]) H s1 := inv_start (us := [u]) (vs := [v]) S hr.hd e0 rfl (.cons ru .nil) x1
  refine PySem.W.kla_codeExpr (wpAny_mono ((hbody (hr.deeper _)).run [] s1 _ H Q I1 (by exact h)) (fun w s' hq => ?_) fun e s' hq => hq)
  obtain ⟨w', H', J', rv, q⟩ := hq
  exact ⟨w', H', J'.os, J'.bare, J'.base, J'.hok, rv, q⟩
end
/-- the least by key: the rest, the best so far, its key -/
def mkGo (kf : PyData → Option PyData) : List PyData → PyData → PyData → Option PyData
  | [], d, _ => some d
  | e :: r, d, k => (kf e).bind fun k' => if notL k' = true ∧ PySem.W.alike k' k = true ∧ isNoneD k' = false ∧ SeqAt.shaped k' = true ∧ SeqAt.shaped k = true then (if PySem.W.dataLt k' k = true then mkGo kf r e k' else mkGo kf r d k) else none
def mkD (kf : PyData → Option PyData) : PyData → Option PyData
  | .list (d :: r) => (kf d).bind fun k => if notL k = true then mkGo kf r d k else none
  | _ => none
section
variable {X : Cx} {Ps : List Addr} {pins : List (Addr × Obj)} {σ : L2.St}
/-- what stands while the loop runs -/
structure MkS (X : Cx) (Ps : List Addr) (pins : List (Addr × Obj)) (σ : L2.St) (H0 : Hp) (f c' it S : Addr) (fo : Obj) (H : Hp) (s : Shared) : Prop where
  I : Inv X pins σ H s
  sm : Sm Ps H0 H
  ok : Ok Ps H
  fit : FpOk X pins H it
  fS : FpOk X pins H S
  ff : FpOk X pins H f
  fo : s.heap.get? f = some fo
theorem MkS.turned {H0 : Hp} {f c' it S : Addr} {fo : Obj} {H : Hp} {s : Shared} (m : MkS X Ps pins σ H0 f c' it S fo H s) {h' : Heap} {t' : Nat} {a : Addr} (k : ∀ b o, b ≠ a → s.heap.get? b = some o → h'.get? b = some o) (ha : FpOk X pins H a) (nf : f ≠ a) :
    MkS X Ps pins σ H0 f c' it S fo H { s with heap := h', toks := t' } := by
  obtain ⟨f0, f1, f2, f3, f4, f5⟩ := ha
  exact ⟨m.I.turned k f0 f1 f3 f4 f5, m.sm, m.ok, m.fit, m.fS, m.ff, k _ _ nf m.fo⟩
/-- the context of the lambda's body -/
abbrev lamBody (X : Cx) (A : Around) (q : Str) (scope : Scope) (x : Str) (f c' : Addr) (s : Shared) (H : Hp) : Cx :=
  cxOf C8.CX0 X.prog X.w X.K X.mg X.base [x] q scope f (.ref c') A X.stack s H (fun _ _ _ => False)
section
variable {H0 : Hp} {f c' it S l : Addr} {q : Str} {params : Arguments} {body : Expr} {scope : Scope} {pm ctv : Value} {x : Str} {k : Nat} {E1 : DEnv → Option PyData} {xs : List V} {ds : List PyData}
theorem env0_in1 {H : Hp} {s : Shared} (I : Inv X pins σ H s) : Env0 X.prog X.w X.K X.mg X.base X.A.in1 X.stack s H :=
  let e := I.env0
  ⟨e.frames, e.mod, e.bs, e.bsz, e.funs, e.frf, e.hok, e.bare⟩
/-- the key of an item is taken -/
theorem mk_key {H : Hp} {s : Shared} {u : Value} {v : V} {d kd : PyData} {E : Value → Shared → Prop} {Q : Value → Shared → Prop} (m : MkS X Ps pins σ H0 f c' it S (PySem.W.kla_obj "<lambda>" q params body scope [] pm c' ctv) H s) (hr : Room (k + 2) X.A) (hc0 : H0 c' = some (LamX.CodeO c' q)) (hcP : c' ∉ Ps)
    (Sc : FnScope [x] [x] scope) (hb : ∀ (s : Shared) (u : Value), BindsTo s (PySem.W.kla_fn "<lambda>" q params body scope [] pm (.ref c') ctv) ⟨[u], []⟩ [(x, u)])
    (hbody : ∀ (s : Shared) (H : Hp), Room k (X.A.in1.deeper (envOfC q scope s.heap.objs.size f (.ref c'))) → PE (lamBody X X.A.in1 q scope x f c' s H) body (tD Ps E1))
    (hit : ∃ o, s.heap.get? it = some o) (hS : ∃ o, s.heap.get? S = some o) (ru : RelV v u) (rv : Rt H v d) (hk : E1 [some d] = some kd) (nk' : notL kd = true)
    (hq : ∀ (y : Value) (yv : V) (H' : Hp) (s' : Shared), MkS X Ps pins σ H0 f c' it S (PySem.W.kla_obj "<lambda>" q params body scope [] pm c' ctv) H' s' → Sm Ps H H' → RelV yv y → Rt H' yv kd → (∀ b o, FpOk X pins H b → s.heap.get? b = some o → s'.heap.get? b = some o) → Q y s') :
    wpAny (model X.prog X.w) X.A.in1 (call (.ref f) [u]) Q E s := by
  have hr1 : Room (k + 1) X.A.in1 := ⟨hr.hd, by have h := hr.dp; have e : X.A.in1.depth = X.A.depth := rfl; rw [e]; omega, by have h := hr.un; have e : X.A.in1.units = X.A.units + 1 := rfl; rw [e]; omega⟩
  have rc := lam_run (Q := fun y H' => Sm Ps H H' ∧ Ok Ps H' ∧ Rt H' y kd) m.I (env0_in1 m.I) hr1 m.fo (m.sm c' _ hcP hc0) Sc (hb s u) ru (fun hr' => hbody s H hr')
    ⟨[some d], kd, m.ok, ⟨rfl, fun i d' e => by
      cases i with
      | zero =>
        simp at e
        subst e
        exact ⟨v, rfl, rv.up⟩
      | succ i => simp at e⟩, hk, fun y H' s1 k1 r1 => ⟨s1, k1, r1.im nk'⟩⟩
  refine wpAny_call (codeAny_mono rc fun r s2 hq' => ?_)
  cases r with
  | error e => exact (show False from hq').elim
  | ok fl =>
    cases fl with
    | ret y =>
      obtain ⟨yv, H', os, bare, un, hok, ry, sm', ok', rk⟩ := (show CE X.stack X.prog X.w H s (fun y H' => Sm Ps H H' ∧ Ok Ps H' ∧ Rt H' y kd) y s2 from hq')
      have I2 : Inv X pins σ H' s2 := m.I.call' (ch := []) os un hok bare (fun b z => absurd z (by simp))
      have nfr : ∀ {b}, FpOk X pins H b → b ∉ frs X.stack := fun {b} fb z => by
        rcases List.mem_cons.mp (m.I.stkSub _ z) with e | e
        · exact fb.2.1 e
        · exact fb.2.2.1 e
      have kp : ∀ b o, FpOk X pins H b → s.heap.get? b = some o → s2.heap.get? b = some o := fun b o fb e => un.keep b o e fb.1 (nfr fb) (by simp)
      have kf : ∀ b o, FpOk X pins H b → s.heap.get? b = some o → FpOk X pins H' b := fun b o fb e => ⟨un.free b o e fb.1 (by simp), fb.2⟩
      exact hq y yv H' s2 ⟨I2, m.sm.trans sm', ok', (let ⟨o, e⟩ := hit; kf _ o m.fit e), (let ⟨o, e⟩ := hS; kf _ o m.fS e), kf _ _ m.ff m.fo, kp _ _ m.ff m.fo⟩ sm' ry rk kp
    | next => exact False.elim hq'
    | brk => exact False.elim hq'
    | cont => exact False.elim hq'
theorem mk_loop (hcalm : X.calm = true) (hr : Room (k + 2) X.A) (hc0 : H0 c' = some (LamX.CodeO c' q)) (hcP : c' ∉ Ps)
    (Sc : FnScope [x] [x] scope) (hb : ∀ (s : Shared) (u : Value), BindsTo s (PySem.W.kla_fn "<lambda>" q params body scope [] pm (.ref c') ctv) ⟨[u], []⟩ [(x, u)])
    (hbody : ∀ (s : Shared) (H : Hp), Room k (X.A.in1.deeper (envOfC q scope s.heap.objs.size f (.ref c'))) → PE (lamBody X X.A.in1 q scope x f c' s H) body (tD Ps E1))
    (hSit : S ≠ it) (hfit : f ≠ it) (hfS : f ≠ S) (hl0 : H0 l = some (.lst xs)) (hlP : l ∉ Ps) (k0 : Ok Ps H0) (ra : RpA H0 xs ds) (kw : List (Str × Value)) {R : Result → Shared → Prop} {dres : PyData}
    (hR : ∀ (v : Value) (y : V) (H' : Hp) (s' : Shared), MkS X Ps pins σ H0 f c' it S (PySem.W.kla_obj "<lambda>" q params body scope [] pm c' ctv) H' s' → RelV y v → Rt H' y dres → R (.ok (.ret v)) s') :
    ∀ (r : List PyData) (j : Nat) (H : Hp) (s : Shared) (vb kb : Value) (db kdb : PyData) (xb yb : V) (c : Nat), MkS X Ps pins σ H0 f c' it S (PySem.W.kla_obj "<lambda>" q params body scope [] pm c' ctv) H s → s.heap.IsListIter it l j → ds.drop j = r →
      s.heap.get? S = some { cls := .type "list", dict := none, data := .seq #[vb, kb] c, slots := #[] } → RelV xb vb → Rt H xb db → RelV yb kb → Rt H yb kdb → mkGo (fun d => E1 [some d]) r db kdb = some dres →
      codeAny (model X.prog X.w) X.A (.builtin "min.loop" ⟨[.ref it, .ref f, .ref S], kw⟩) R s := by
  have hname : (toString "min" ++ toString ".loop" : String) = "min.loop" := by decide
  intro r
  induction r with
  | nil =>
    intro j H s vb kb db kdb xb yb c m hit hdr hS rb rbd rk rkd hgo
    have hl : H l = some (.lst xs) := m.sm l _ hlP hl0
    obtain ⟨its, rv, pl, _⟩ := m.I.list (SqL.of hl)
    have len1 : its.length = xs.length := rv.length.symm
    have len2 := ra.length
    have hj : ds.length ≤ j := by
      have := congrArg List.length hdr
      rw [List.length_drop] at this
      simp at this
      omega
    cases hgo
    refine codeAny_builtin F.entry_min_loop ?_
    rw [Around.under_plainId F.plain_min_loop _]
    show wpAny _ X.A.in1 (seqItems? (.ref S) >>= _) _ _ s
    refine wpAny_bind (wpAny_seqItems hS rfl ?_)
    show wpAny _ X.A.in1 (tryCatch (pyNext (.ref it)) _ >>= _) _ _ s
    refine wpAny_bind (wpAny_tryCatch (wpAny_pyNext_list_end (m.I.ok.hd hcalm) hit pl.isList (by simp; omega) fun h' he' => ?_))
    have m1 := m.turned (t' := s.toks) (a := it) (fun b o hb e => he' b o hb e) m.fit hfit
    have hS' : h'.get? S = _ := he' S _ hSit hS
    show wpAny _ X.A.in1 (updateSeq S (fun _ => #[]) >>= _) _ _ _
    refine wpAny_bind ?_
    refine wpAny_updateSeq hS' rfl (wpAny_bind (wpAny_letGo (wpAny_pure ?_)))
    exact hR vb xb H _ (m1.turned (t' := s.toks) (a := S) (fun b o hb e => (Heap.get?_update_other _ _ (Ne.symm hb)).trans e) m1.fS hfS) rb rbd
  | cons e r ih =>
    intro j H s vb kb db kdb xb yb c m hit hdr hS rb rbd rk rkd hgo
    have hl : H l = some (.lst xs) := m.sm l _ hlP hl0
    obtain ⟨its, rv, pl, _⟩ := m.I.list (SqL.of hl)
    have len1 : its.length = xs.length := rv.length.symm
    have len2 := ra.length
    have hj : j < ds.length := by
      have := congrArg List.length hdr
      rw [List.length_drop, List.length_cons] at this
      omega
    have he : ds[j]? = some e := by
      have := congrArg (fun l => l[0]?) hdr
      simpa using this
    have hdr' : ds.drop (j + 1) = r := by
      have := congrArg List.tail hdr
      simpa using this
    obtain ⟨ve, hve, rve0⟩ := ra.get he
    obtain ⟨ue, hue, rue⟩ := rv.get hve
    obtain ⟨kd', e1, e2⟩ := Option.bind_eq_some_iff.mp hgo
    split at e2
    case isFalse => cases e2
    rename_i hcond
    obtain ⟨hnl, hal, hnn, hsh1, hsh2⟩ := hcond
    refine codeAny_builtin F.entry_min_loop ?_
    rw [Around.under_plainId F.plain_min_loop _]
    show wpAny _ X.A.in1 (seqItems? (.ref S) >>= _) _ _ s
    refine wpAny_bind (wpAny_seqItems hS rfl ?_)
    show wpAny _ X.A.in1 (tryCatch (pyNext (.ref it)) _ >>= _) _ _ s
    refine wpAny_bind (wpAny_tryCatch (wpAny_pyNext_list_item hit pl.isList (x := ue) (by simpa using hue) fun h' hit' sb => ?_))
    have m1 := m.turned (t' := s.toks) (a := it) (fun b o hb e => sb.extBut b o hb e) m.fit hfit
    have hS' : h'.get? S = _ := sb.extBut S _ hSit hS
    have rveH : Rt H ve e := Rp.mono k0 m.sm _ _ rve0
    show wpAny _ X.A.in1 (tryCatch (holding [ue] (call (.ref f) [ue])) _ >>= _) _ _ _
    have hito : ∃ o, h'.get? it = some o := let ⟨o, e, _⟩ := hit'; ⟨o, e⟩
    refine wpAny_bind (wpAny_tryCatch (wpAny_holding (mk_key m1 hr hc0 hcP Sc hb hbody hito ⟨_, hS'⟩ rue rveH e1 hnl fun kx kxv H2 s2 m2 sm2 rkx rkxd kp => ?_)))
    have hS2 : s2.heap.get? S = _ := kp S _ m1.fS hS'
    have hit2 : s2.heap.IsListIter it l (j + 1) := hit'.at fun o e => kp it o m1.fit e
    have rkd2 : Rt H2 yb kdb := Rp.mono m.ok sm2 _ _ rkd
    have rbd2 : Rt H2 xb db := Rp.mono m.ok sm2 _ _ rbd
    have rved2 : Rt H2 ve e := Rp.mono m.ok sm2 _ _ rveH
    show wpAny _ X.A.in1 (tryCatch (holding [ue, kx] (richCompare .Lt kx kb >>= _)) _ >>= _) _ _ _
    obtain ⟨as, ra1⟩ := Dp.reads m2.I _ _ _ (Rt.dp _ _ (SeqAt.canLay_of_shaped hsh1) rkxd) rkx
    obtain ⟨bs, rb1⟩ := Dp.reads m2.I _ _ _ (Rt.dp _ _ (SeqAt.canLay_of_shaped hsh2) rkd2) rk
    have hroom : X.A.in1.units + min kd'.depth kdb.depth < cLine := SeqAt.room_of_shaped hsh1 (by have := hr.un; have e : X.A.in1.units = X.A.units + 1 := rfl; rw [e]; omega)
    refine wpAny_bind (wpAny_tryCatch (wpAny_holding (wpAny_bind (PySem.W.rcLt_alike kd' kdb X.A.in1 s2 kx kb as bs ra1 rb1 hal (fun z => by rw [z] at hnn; cases hnn) hroom _ _ _ _ ?_))))
    refine wpAny_bind (wpAny_holding (wpAny_truthy_bool ?_))
    refine wpAny_bind (wpAny_letGo (wpAny_pure ?_))
    cases hlt : PySem.W.dataLt kd' kdb with
    | true =>
      rw [hlt] at e2
      simp only [if_true] at e2 ⊢
      refine wpAny_bind ?_
      refine wpAny_updateSeq hS2 rfl (wpAny_bind (wpAny_letGo ?_))
      rw [hname]
      have m3 := m2.turned (t' := s2.toks) (a := S) (h' := s2.heap.update S (Obj.mapSeq fun _ => #[ue, kx])) (fun b o hb e => (Heap.get?_update_other _ _ (Ne.symm hb)).trans e) m2.fS hfS
      exact wpAny_pure ⟨plainId_quiet F.plain_min_loop _, ih (j + 1) H2 _ ue kx e kd' ve kxv _ m3 (hit2.at fun o e => (Heap.get?_update_other _ _ hSit).trans e) hdr' (Heap.get?_update_self _ hS2 rfl) rue rved2 rkx rkxd e2⟩
    | false =>
      rw [hlt] at e2
      simp only [Bool.false_eq_true, if_false] at e2 ⊢
      refine wpAny_bind (wpAny_letGo ?_)
      rw [hname]
      exact wpAny_pure ⟨plainId_quiet F.plain_min_loop _, ih (j + 1) H2 s2 vb kb db kdb xb yb c m2 hit2 hdr' hS2 rb rbd2 rk rkd2 e2⟩
end
end
section
variable {X : Cx} {Ps : List Addr} {pins : List (Addr × Obj)} {σ : L2.St} {H : Hp} {s : Shared}
/-- the lambda is made -/
theorem lam_make3 {c : Addr} {params : Arguments} {body : Expr} {scope : Scope} {pos : Pos} {E : Value → Shared → Prop} {Q : Value → Shared → Prop} (I : Inv X pins σ H s) (k : Ok Ps H) (TB : LamX.TabB X.base X.mg c Wd.lamP) (hcode : X.env.code = .ref c)
    (hm : X.env.qual ++ "<lambda>" = Wd.lamQ) (hdef : defaultsOf params X.env = ([], [])) (hfree : ∀ y ∈ scope.names, y.2 = .free → ∃ c, X.env.cells.lookup y.1 = some c)
    (h : ∀ (f c' : Addr) (pm ctv : Value) (H1 : Hp) (s' : Shared), Inv X pins σ H1 s' → Sm Ps H H1 → Ok Ps H1 →
      s'.heap.get? f = some (PySem.W.kla_obj "<lambda>" (X.env.qual ++ "<lambda>") params body scope (cloFrom X.env.cells scope.names []) pm c' ctv) → FpOk X pins H1 f → H1 c' = some (LamX.CodeO c' (X.env.qual ++ "<lambda>")) → Q (.ref f) s') :
    wpAny (model X.prog X.w) X.A (eval (.Lambda params body scope pos) X.env) Q E s := by
  obtain ⟨ps, hP, ht⟩ := k.1 _ k.2.1
  have ha := k.2.2 ps hP
  rw [hm] at h
  refine PySem.W.kla_eval hdef ?_
  rw [hm]
  have bP : s.heap.BuiltinsAt X.mg Wd.lamP := TB.bm.keeps I.bk
  have hP' : s.heap.get? Wd.lamP = some { cls := .none, data := .fields ps } := I.hok _ _ hP
  cases hc : codeAmong pos ps.toList with
  | none =>
    refine PySem.W.kla_makeFunction (mg := X.mg) (c := c) (P := Wd.lamP) (ps := ps) (closure_ok hfree) I.ok.glob (I.mod.glob.keeps I.bk) hcode (TB.code.keeps I.bk) hP' ht hc TB.gP bP fun c' ctv h' tk hx hge hlt hrec htb => ?_
    obtain ⟨c2, oc, vs, t, e2, hoc, hd, hv⟩ := hrec
    cases e2
    have hsz : s.heap.objs.size ≤ h'.objs.size := Nat.le_trans hge (Nat.le_of_lt hlt)
    have nC : H c' = none := I.hok.fresh hge
    have I1 := LamX.inv_table (t' := tk) (more := #[rawInt pos.line, rawInt pos.col, .ref c']) (h' := h'.push (PySem.W.kla_obj "<lambda>" Wd.lamQ params body scope (cloFrom X.env.cells scope.names []) ((X.mg "__name__").getD .none) c' ctv)) I hP
      (fun b o hb e => Heap.get?_push_of_some _ (hx b o hb e)) (Heap.get?_push_of_some _ htb) hge ⟨oc, vs, t, Heap.get?_push_of_some _ hoc, hd, hv⟩
    have eL : (ps ++ #[rawInt pos.line, rawInt pos.col, .ref c']).toList = ps.toList ++ [rawInt pos.line, rawInt pos.col, .ref c'] := by simp
    have nCP : Wd.lamP ≠ c' := ne_of_none hP nC
    refine h h'.objs.size c' ((X.mg "__name__").getD .none) ctv _ _ I1 (fun b o nb e => ?_) ⟨fun P2 hP2 => ?_, k.2.1, fun ps2 e p' cv hcv => ?_⟩ (Heap.get?_push_size _ rfl) (I.fpOk hsz ?_) upd_same
    · have : b ≠ Wd.lamP := fun z => nb (z ▸ k.2.1)
      rw [upd_ne (ne_of_none e nC), upd_ne this]
      exact e
    · by_cases hb : P2 = Wd.lamP
      · rw [hb]
        exact ⟨_, by rw [upd_ne nCP, upd_same], by rw [eL]; exact PySem.TriplesOk_snoc _ _ _ _ ht⟩
      · obtain ⟨ps', a1, a2⟩ := k.1 P2 hP2
        exact ⟨ps', by rw [upd_ne (ne_of_none a1 nC), upd_ne hb]; exact a1, a2⟩
    · rw [upd_ne nCP, upd_same] at e
      cases e
      rw [eL] at hcv
      rcases LamX.among_app _ ht hcv with z | z
      · obtain ⟨c0, e1, e2⟩ := ha p' cv z
        refine ⟨c0, e1, ?_⟩
        have : c0 ≠ Wd.lamP := fun z => by
          rw [z, hP] at e2
          exact LamX.codeO_ne _ (Option.some.inj e2).symm
        rw [upd_ne (ne_of_none e2 nC), upd_ne this]
        exact e2
      · exact ⟨c', z, upd_same⟩
    · have n1 : h'.objs.size ≠ c' := Nat.ne_of_gt hlt
      have n2 : h'.objs.size ≠ Wd.lamP := Nat.ne_of_gt (Nat.lt_of_lt_of_le (Heap.lt_size hP') hsz)
      rw [upd_ne n1, upd_ne n2]
      exact I.hok.fresh hsz
  | some cv =>
    obtain ⟨c', e, hco⟩ := ha pos cv hc
    subst e
    refine PySem.W.kla_makeFunctionHit (mg := X.mg) (c := c) (P := Wd.lamP) (ps := ps) (closure_ok hfree) I.ok.glob (I.mod.glob.keeps I.bk) hcode (TB.code.keeps I.bk) hP' ht hc bP fun ctv h' tk hx hsz => ?_
    have I1 : Inv X pins σ H { s with heap := h'.push (PySem.W.kla_obj "<lambda>" Wd.lamQ params body scope (cloFrom X.env.cells scope.names []) ((X.mg "__name__").getD .none) c' ctv), toks := tk } := I.kept fun b o e => Heap.get?_push_of_some _ (hx b o e)
    exact h h'.objs.size c' ((X.mg "__name__").getD .none) ctv H _ I1 .refl k (Heap.get?_push_size _ rfl) (I.fpOk hsz (I.hok.fresh hsz)) hco
end
section
variable {X : Cx} {Ps : List Addr} {a : Expr} {Ea : DEnv → Option PyData}
theorem pd_minkey {c : Addr} {params : Arguments} {body : Expr} {scope : Scope} {x : Str} {k : Nat} {E1 : DEnv → Option PyData} {p lpos kpos pos : Pos} (hcalm : X.calm = true) (hr : Room (k + 2) X.A) (TB : LamX.TabB X.base X.mg c Wd.lamP) (hcode : X.env.code = .ref c)
    (hmq : X.env.qual ++ "<lambda>" = Wd.lamQ) (Sc : FnScope [x] [x] scope) (hdef : defaultsOf params X.env = ([], [])) (hcl : ∀ cells, cloFrom cells scope.names [] = [])
    (hg : Gl X "min") (hm : X.mg "min" = none) (ha : PE X a (tD Ps Ea))
    (hb : ∀ (pm cv ctv : Value) (s : Shared) (u : Value), BindsTo s (PySem.W.kla_fn "<lambda>" Wd.lamQ params body scope [] pm cv ctv) ⟨[u], []⟩ [(x, u)])
    (hbody : ∀ (f c' : Addr) (s : Shared) (H : Hp), Room k (X.A.in1.deeper (envOfC Wd.lamQ scope s.heap.objs.size f (.ref c'))) → PE (lamBody X X.A.in1 Wd.lamQ scope x f c' s H) body (tD Ps E1))
    (hst : starEach [a] X.env = (false, eval a X.env) :: starEach [] X.env := by rfl) (he : backTo pos (starEach [a] X.env) = (false, eval a X.env) :: backTo pos (starEach [] X.env) := by rfl) (hpl : (backTo pos (starEach [a] X.env)).any (·.1) = false := by rfl)
    (hkw : backToKw pos (keywordEach [⟨some "key", .Lambda params body scope lpos, kpos⟩] X.env) = [(some (Str.ofString "key"), do let v ← eval (.Lambda params body scope lpos) X.env; standAt pos; pure v)] := by rfl)
    (hv : bootBuiltins "min" = some (.builtin "min") := by decide +kernel) :
    PE X (.Call (.Name "min" p) [a] [⟨some "key", .Lambda params body scope lpos, kpos⟩] pos) (tD Ps (o1 (mkD fun d => E1 [some d]) Ea)) := by
  refine ⟨fun pins s σ H Q I ⟨ρ, d, k0, rel, e, q⟩ => ?_⟩
  obtain ⟨dl, e1, e2⟩ := Option.bind_eq_some_iff.mp e
  refine wpAny_Call_Name_kw (ld_blt I hg hm hv ?_ (by decide) (by decide))
  refine PyProof.Rows.callWith_kw (thn ((pa_cons ha pa_nil hst).run pos pins s σ H (fun vs H1 => ∃ v, vs = [v] ∧ Sm Ps H H1 ∧ Ok Ps H1 ∧ Rp H1 v dl) I ⟨ρ, dl, k0, rel, e1, fun v H1 s1 k1 r1 => ⟨v, rfl, s1, k1, r1⟩⟩) fun us s1 ⟨vs, H1, I1, r1, v, hvs, sm1, k1, rp1⟩ => ?_) he hpl (by rw [hkw]; rfl) (by rw [hkw]; rfl)
  subst hvs
  obtain ⟨u, rfl, ru⟩ := vals1 r1
  rw [hkw]
  refine wpAny_evalAll_cons (wpAny_bind (lam_make3 I1 k1 TB hcode hmq hdef (fun y hy ey => absurd ey (Sc.nofree y hy)) fun f c' pm ctv H2 s2 I2 sm2 k2 hf ff hc2 => wpAny_bind (wpAny_standAt (wpAny_pure (wpAny_evalAll_nil ?_)))))
  rw [hmq, hcl] at hf
  rw [hmq] at hc2
  cases dl with
  | list dsl =>
    cases dsl with
    | nil => cases e2
    | cons d0 r0 =>
      obtain ⟨kd0, e3, e4⟩ := Option.bind_eq_some_iff.mp e2
      obtain ⟨hnl0, e5⟩ : notL kd0 = true ∧ mkGo (fun d => E1 [some d]) r0 d0 kd0 = some d := by
        by_cases h : notL kd0 = true
        · rw [if_pos h] at e4
          exact ⟨h, e4⟩
        · rw [if_neg h] at e4
          cases e4
      cases rp1 with
      | @lst l xs ds hl1 ra1 =>
      obtain rfl : u = Value.ref l := ru
      have hlP : l ∉ Ps := k1.ne hl1 no_lst
      have hl2 : H2 l = some (.lst xs) := sm2.lst k1 hl1
      have ra2 := RpA.mono k1 sm2 _ _ ra1
      show wpAny _ _ (call (.builtin "min") [.ref l] [(Str.ofString "key", .ref f)]) _ _ s2
      have hname : (toString "min" ++ toString ".loop" : String) = "min.loop" := by decide
      refine PyProof.Rows.kmk_tree F.kind_min F.plain_min F.entry_min (PyProof.Rows.kmk_min_key _ _) ?_
      show wpAny _ X.A.in1 (Builtin.Builtins.bindParams "min" ["key", "default"] 0 ⟨[], [(Str.ofString "key", .ref f)]⟩ >>= _) _ _ s2
      refine wpAny_bind (wpAny_of_eq (show Builtin.Builtins.bindParams "min" ["key", "default"] 0 ⟨[], [(Str.ofString "key", .ref f)]⟩ = pure [some (.ref f), none] from rfl) ?_)
      refine wpAny_bind (wpAny_pure ?_)
      obtain ⟨its, rv, pl, _⟩ := I2.list (SqL.of hl2)
      refine wpAny_bind (wpAny_pyIter_list pl.isList ?_)
      refine wpAny_bind (wpAny_newObj_type ?_)
      rw [hname]
      generalize hit : s2.heap.objs.size = it
      generalize hs3 : ({ s2 with heap := s2.heap.push { cls := .type "list_iterator", data := .fields #[.ref l, .int 0 0] } } : Shared) = s3
      have hp3 : s3.heap = s2.heap.push { cls := .type "list_iterator", data := .fields #[.ref l, .int 0 0] } := by rw [← hs3]
      have hsz3 : s3.heap.objs.size = it + 1 := by rw [hp3, Heap.size_push, hit]
      have I3 : Inv X pins σ H2 s3 := by
        rw [← hs3]
        exact I2.kept (t' := s2.toks) fun b o e => Heap.get?_push_of_some _ e
      have fit : FpOk X pins H2 it := by rw [← hit]; exact I2.fpOk (Nat.le_refl _) (I2.hok.fresh (Nat.le_refl _))
      have git : s3.heap.get? it = some { cls := .type "list_iterator", data := .fields #[.ref l, .int 0 0] } := by rw [hp3, ← hit]; exact Heap.get?_push_size _ rfl
      have hf3 : s3.heap.get? f = some (PySem.W.kla_obj "<lambda>" Wd.lamQ params body scope [] pm c' ctv) := by rw [hp3]; exact Heap.get?_push_of_some _ hf
      generalize hS : s3.heap.objs.size = S
      have fS : FpOk X pins H2 S := by rw [← hS]; exact I3.fpOk (Nat.le_refl _) (I3.hok.fresh (Nat.le_refl _))
      generalize hs4 : ({ s3 with heap := s3.heap.push { cls := .type "list", data := .seq #[] 0 } } : Shared) = s4
      have hp4 : s4.heap = s3.heap.push { cls := .type "list", data := .seq #[] 0 } := by rw [← hs4]
      have I4 : Inv X pins σ H2 s4 := by
        rw [← hs4]
        exact I3.kept (t' := s3.toks) fun b o e => Heap.get?_push_of_some _ e
      have gS : s4.heap.get? S = some { cls := .type "list", dict := none, data := .seq #[] 0, slots := #[] } := by rw [hp4, ← hS]; exact Heap.get?_push_size _ rfl
      have git4 : s4.heap.get? it = some { cls := .type "list_iterator", data := .fields #[.ref l, .int 0 0] } := by rw [hp4]; exact Heap.get?_push_of_some _ git
      have hf4 : s4.heap.get? f = some (PySem.W.kla_obj "<lambda>" Wd.lamQ params body scope [] pm c' ctv) := by rw [hp4]; exact Heap.get?_push_of_some _ hf3
      have hSit : S ≠ it := by rw [← hS, hsz3]; omega
      have hfit : f ≠ it := fun z => by
        rw [z, git4] at hf4
        have := congrArg Obj.cls (Option.some.inj hf4)
        injection this with this
        exact absurd this (by decide)
      have hfS : f ≠ S := fun z => by
        rw [z, gS] at hf4
        have := congrArg Obj.cls (Option.some.inj hf4)
        injection this with this
        exact absurd this (by decide)
      have m4 : MkS X Ps pins σ H2 f c' it S (PySem.W.kla_obj "<lambda>" Wd.lamQ params body scope [] pm c' ctv) H2 s4 := ⟨I4, .refl, k2, fit, fS, ff, hf4⟩
      have hcP : c' ∉ Ps := k2.ne hc2 fun ps => LamX.codeO_ne ps
      have hlit : s4.heap.IsListIter it l 0 := ⟨_, git4, rfl, rfl⟩
      obtain ⟨its4, rv4, pl4, _⟩ := I4.list (SqL.of hl2)
      obtain ⟨v0, hv0, rv0⟩ := ra2.get (i := 0) (d := d0) rfl
      obtain ⟨u0, hu0, ru0⟩ := rv4.get hv0
      have kfin : ∀ (v : Value) (y : V) (H' : Hp) (s' : Shared), MkS X Ps pins σ H2 f c' it S (PySem.W.kla_obj "<lambda>" Wd.lamQ params body scope [] pm c' ctv) H' s' → RelV y v → Rt H' y d → EP X pins σ Q v s' := fun v y H' s' m ry rd => ⟨y, H', m.I, ry, q y H' ((sm1.trans sm2).trans m.sm) m.ok rd.up⟩
      refine wpAny_pure ⟨plainId_quiet F.plain_min_loop _, ?_⟩
      refine codeAny_builtin F.entry_min_loop ?_
      rw [Around.under_plainId F.plain_min_loop _]
      show wpAny _ X.A.in1 (seqItems? (.ref S) >>= _) _ _ s4
      refine wpAny_bind (wpAny_seqItems gS rfl ?_)
      show wpAny _ X.A.in1 (tryCatch (pyNext (.ref it)) _ >>= _) _ _ s4
      refine wpAny_bind (wpAny_tryCatch (wpAny_pyNext_list_item hlit pl4.isList (x := u0) (by simpa using hu0) fun h' hit' sb => ?_))
      have m1 := m4.turned (t' := s4.toks) (a := it) (fun b o hb e => sb.extBut b o hb e) m4.fit hfit
      have hS' : h'.get? S = _ := sb.extBut S _ hSit gS
      have hito : ∃ o, h'.get? it = some o := let ⟨o, e, _⟩ := hit'; ⟨o, e⟩
      show wpAny _ X.A.in1 (tryCatch (holding [u0] (call (.ref f) [u0])) _ >>= _) _ _ _
      refine wpAny_bind (wpAny_tryCatch (wpAny_holding (mk_key (k := k) m1 hr hc2 hcP Sc (hb pm _ ctv) (hbody f c') hito ⟨_, hS'⟩ ru0 rv0 e3 hnl0 fun kx kxv H5 s5 m5 sm5 rkx rkxd kp => ?_)))
      have hS5 : s5.heap.get? S = _ := kp S _ m1.fS hS'
      have hit5 : s5.heap.IsListIter it l (0 + 1) := hit'.at fun o e => kp it o m1.fit e
      show wpAny _ X.A.in1 (updateSeq S (fun _ => #[u0, kx]) >>= _) _ _ _
      refine wpAny_bind ?_
      refine wpAny_updateSeq hS5 rfl ?_
      rw [hname]
      have m6 := m5.turned (t' := s5.toks) (a := S) (h' := s5.heap.update S (Obj.mapSeq fun _ => #[u0, kx])) (fun b o hb e => (Heap.get?_update_other _ _ (Ne.symm hb)).trans e) m5.fS hfS
      exact wpAny_pure ⟨plainId_quiet F.plain_min_loop _, mk_loop (k := k) hcalm hr hc2 hcP Sc (hb pm _ ctv) (hbody f c') hSit hfit hfS hl2 hlP k2 ra2 _ (fun v y H' s' m ry rd => kfin v y H' s' m ry rd) r0 1 H5 _ u0 kx d0 kd0 v0 kxv _ m6
        (hit5.at fun o e => (Heap.get?_update_other _ _ hSit).trans e) rfl (Heap.get?_update_self _ hS5 rfl) ru0 (Rp.mono k2 sm5 _ _ rv0) rkx rkxd e5⟩
  | _ => cases e2
end
end LL
set_option Elab.async false
set_option linter.all false
set_option maxRecDepth 100000
set_option maxHeartbeats 1000000
set_option autoImplicit false
/-! More rules by data; the defs of the module. -/
namespace LL
open PySem PySem.Spec PyProof.Rows L2
variable [Wd]
section
variable {X : Cx} {Ps : List Addr} {a b : Expr} {pos : Pos} {Ea Eb : DEnv → Option PyData}
def negD : PyData → Option PyData
  | .int i => some (.int (-i))
  | _ => none
theorem pd_neg (ha : PE X a (tD Ps Ea)) : PE X (.UnaryOp .USub a pos) (tD Ps (o1 negD Ea)) := pe_imp (pe_un un_neg ha) fun σ H Q ⟨ρ, d, k, rel, e, q⟩ => by
  obtain ⟨x, e1, e⟩ := Option.bind_eq_some_iff.mp e
  refine ⟨ρ, x, k, rel, e1, fun v1 H1 s1 k1 r1 => ?_⟩
  cases r1 with
  | int i =>
    cases e
    exact ⟨i, rfl, q _ _ s1 k1 (.int _)⟩
  | _ => cases e
theorem pd_glob {x : Str} {i : Int} (h : ∃ t, X.mg x = some (.int i t)) (hg : Gl X x := by rfl) (hd : (x == ("__debug__" : Str)) = false := by decide) : PE X (.Name x pos) (tD Ps (oC (.int i))) := by
  obtain ⟨t, h⟩ := h
  exact pd_c (pe_glob (v := .int i) hg h ⟨t, rfl⟩ hd) fun _ => .int i
/-- a bool as a test -/
theorem pdt_b {e : Expr} {Ec : DEnv → Option Bool} (h : PE X e (tD Ps (oB Ec))) (he : ∀ whole, isTrue e X.env whole = (do let v ← whole; standAt e.pos; holding [v] (truthy v)) := by intro _; rfl) : PT X e (tT Ps Ec) :=
  pt_imp (pt_val h he) fun σ H Q ⟨ρ, d, k, rel, e, q⟩ => by
    refine ⟨ρ, .bool d, k, rel, by unfold oB; rw [e]; rfl, fun v1 H1 s1 k1 r1 => ?_⟩
    cases r1
    exact ⟨_, rfl, q _ s1 k1⟩
theorem ifc {c : Prop} [Decidable c] {α : Type} {x : Option α} {d : α} (h : (if c then x else none) = some d) : c ∧ x = some d := by
  by_cases k : c
  · rw [if_pos k] at h
    exact ⟨k, h⟩
  · rw [if_neg k] at h
    cases h
def truD : PyData → Option Bool
  | .tuple ds => some (!ds.isEmpty)
  | .list ds => some (!ds.isEmpty)
  | .bool b => some b
  | _ => none
theorem pdt_tru {e : Expr} {E : DEnv → Option PyData} (h : PE X e (tD Ps E)) (he : ∀ whole, isTrue e X.env whole = (do let v ← whole; standAt e.pos; holding [v] (truthy v)) := by intro _; rfl) : PT X e (tT Ps (o1 truD E)) :=
  pt_imp (pt_truth h he) fun σ H Q ⟨ρ, d, k, rel, e, q⟩ => by
    obtain ⟨x, e1, e⟩ := Option.bind_eq_some_iff.mp e
    refine ⟨ρ, x, k, rel, e1, fun v1 H1 s1 k1 r1 => ?_⟩
    cases r1 with
    | bl b =>
      cases e
      exact ⟨_, rfl, q _ s1 k1⟩
    | tup h1 h2 =>
      cases e
      refine ⟨_, .inr (.inl ⟨_, SqT.of h1, rfl⟩), ?_⟩
      cases h2 <;> exact q _ s1 k1
    | lst h1 h2 =>
      cases e
      refine ⟨_, .inl ⟨_, SqL.of h1, rfl⟩, ?_⟩
      cases h2 <;> exact q _ s1 k1
    | _ => cases e
/-- {} that stays -/
theorem pd_dict0 (hc : X.calm = true) : PE X (.Dict [] [] pos) (tD Ps (oC opD)) := pe_imp (pe_lk pe_dnewK) fun σ H Q ⟨ρ, d, k, rel, e, q⟩ => by
  cases e
  intro p hp
  refine ⟨p, _, upd_same, True.intro, fun od => ?_⟩
  rw [upd_upd]
  exact q _ _ (.new hp) (k.new hp) (.opd upd_same)
/-- a list that stays, and is known by its type alone -/
theorem pd_lst0 {es : List Expr} {Es : DEnv → Option (List PyData)} (h : PA X es (tAs Ps Es)) : PE X (.List es pos) (tD Ps (oL (fun ds => if ds.length ≤ sizeLine then some opL else none) Es)) := pe_imp (pe_lk (pe_lst h)) fun σ H Q ⟨ρ, d, k, rel, e, q⟩ => by
  obtain ⟨ds, e1, e⟩ := Option.bind_eq_some_iff.mp e
  obtain ⟨hl, rfl⟩ := ifs e
  refine ⟨ρ, ds, k, rel, e1, fun vs H1 s1 k1 r1 => ⟨by rw [r1.length]; exact hl, fun p hp => ⟨p, _, upd_same, True.intro, fun od => ?_⟩⟩⟩
  rw [upd_upd]
  exact q _ _ (s1.trans (.new hp)) (k1.new hp) (.opl upd_same)
/-- x, y = a, b -/
def sPar (i j : Nat) (Ea Eb : DEnv → Option PyData) : DEnv → Option Out := fun ρ => (Ea ρ).bind fun a => (Eb ρ).bind fun b => some (.nx ((ρ.set i (some a)).set j (some b)))
theorem psd_par {i j : Nat} {x y : Str} {px py pt : Pos} {kt k2 pt2} (hc : X.calm = true) (hN : X.N.Nodup) (hi : X.N[i]? = some x) (hj : X.N[j]? = some y) (hij : i ≠ j)
    (hx : X.env.scope.names.lookup x = some .local) (hy : X.env.scope.names.lookup y = some .local) (ha : PE X a (tD Ps Ea)) (hb : PE X b (tD Ps Eb))
    (hw : swappedStores [.Tuple [.Name x px, .Name y py] kt pt] (.Tuple [a, b] k2 pt2) X.env = pure (some [x, y]) := by rfl)
    (hs : swapsWithSole [.Tuple [.Name x px, .Name y py] kt pt] (.Tuple [a, b] k2 pt2) pos.line X.env = pure false := by rfl)
    (h1 : starEach [a, b] X.env = (false, eval a X.env) :: starEach [b] X.env := by rfl) (h2 : starEach [b] X.env = (false, eval b X.env) :: starEach [] X.env := by rfl) :
    PS X (.Assign [.Tuple [.Name x px, .Name y py] kt pt] (.Tuple [a, b] k2 pt2) pos) (tS Ps (sPar i j Ea Eb)) := ps_imp (ps_par hc hN hi hj hij hx hy (pda_cons ha (pda_cons hb pda_nil h2) h1) hw hs) fun D σ H ⟨ρ, o, k, rel, e, q⟩ => by
  obtain ⟨da, e1, e⟩ := Option.bind_eq_some_iff.mp e
  obtain ⟨db, e2, e⟩ := Option.bind_eq_some_iff.mp e
  cases e
  refine ⟨ρ, [da, db], k, rel, by unfold oCons; rw [e1, Option.bind_some, e2]; rfl, fun vs H1 s1 k1 r1 => ?_⟩
  cases r1 with
  | cons ra r1 =>
    cases r1 with
    | cons rb r1 =>
      cases r1
      exact ⟨_, _, rfl, q _ _ s1 k1 (((rel.mono k s1).set ra i).set rb j)⟩
end
/-! ### the defs -/
/-- the def at f, its code object at c -/
structure Fd (K : PySem.W.Frag) (x : Str) (st : Stmt) (f : Addr) (fd : FuncData) (c : Addr) (dV : Value) : Prop where
  ex : ∃ (oc : Value) (od : Option Addr) (kV doc pm : Value) (an : Option Addr) (ct : Value) (osl : Array (Option Value)),
    fd = PySem.W.fnOf x x (defArgs st) (defBody st) (defScope st) dV kV doc pm an (.ref c) ct ∧ K.lookup f = some ⟨oc, od, .func fd, osl⟩ ∧ PySem.W.codeIn K (.ref c) x = true
  kp : PySem.W.keepIn K (.ref f) = true
structure DefAt (K : PySem.W.Frag) (mg : Str → Option Value) (x : Str) (st : Stmt) where
  f : Addr
  fd : FuncData
  c : Addr
  ok : Fd K x st f fd c .none
  m : mg x = some (.ref f)
/-- .. with a tuple of one default, a whole number -/
structure DefAtD (K : PySem.W.Frag) (mg : Str → Option Value) (x : Str) (st : Stmt) (i : Int) where
  f : Addr
  fd : FuncData
  c : Addr
  T : Addr
  t : Tok
  o : Obj
  n : Nat
  ok : Fd K x st f fd c (.ref T)
  m : mg x = some (.ref f)
  lk : K.lookup T = some o
  dat : o.data = .seq #[.int i t] n
theorem fd_ok {P : Program} {w : World} {K : PySem.W.Frag} {mg : Str → Option Value} {base : Heap} {x : Str} {st : Stmt} {f : Addr} {fd : FuncData} {c : Addr} {dV : Value} {N ps : List Str} {k : Nat} {sp : Sp} (Fn : Fd K x st f fd c dV) (S : FnScope N ps (defScope st)) (len : ∀ vs H Q E, sp vs H Q E → vs.length = ps.length)
    (hbody : ∀ (A : Around) (outer : List Env) (s : Shared) (H : Hp) (vs : List V) (Q : VK) (E : XK), Room k (A.deeper (envOfC x (defScope st) s.heap.objs.size f (.ref c))) → sp vs H Q E →
      ∃ t, PSs (cxOf CX0 P w K mg base N x (defScope st) f (.ref c) A outer s H E).nox (defBody st) t ∧ t { nx := fun _ H' => Q .non H', rt := Q } (L2.start N vs) H) : FnOk P w K mg base CX0 (k + 1) f fd ps sp := by
  obtain ⟨oc, od, kV, doc, pm, an, ct, osl, rfl, lk, hcd⟩ := Fn.ex
  refine fn_of lk hcd S len fun A outer s H vs Q E hr hsp => ?_
  obtain ⟨t, h, q⟩ := hbody A outer s H vs Q E hr hsp
  exact ⟨t, h.nox, q⟩
def fnD (n N : Nat) (S : DEnv → Option Out) : List PyData → Option PyData := fun ds => if ds.length = n then runD N S ds else none
/-- a def by data -/
theorem fn_data2 {P : Program} {w : World} {K : PySem.W.Frag} {mg : Str → Option Value} {base : Heap} {x : Str} {st : Stmt} {f : Addr} {fd : FuncData} {c : Addr} {dV : Value} (N : List Str) {ps : List Str} {k : Nat} {Ps : List Addr} {F : List PyData → Option PyData} (n M : Nat) (S : DEnv → Option Out) (hF : F = fnD n M S) (hn : ps.length = n) (hM : N.length = M)
    (Fn : Fd K x st f fd c dV) (Sc : FnScope N ps (defScope st))
    (hbody : ∀ (A : Around) (outer : List Env) (s : Shared) (H : Hp) (E : XK), Room k (A.deeper (envOfC x (defScope st) s.heap.objs.size f (.ref c))) →
      PSs (cxOf CX0 P w K mg base N x (defScope st) f (.ref c) A outer s H E).nox (defBody st) (tS Ps S)) :
    FnOk P w K mg base CX0 (k + 1) f fd ps (spD Ps F) := by
  subst hF hn hM
  refine fd_ok Fn Sc (fun vs H Q E ⟨ds, d, _, r, e, _⟩ => by rw [r.length]; exact (LL.ifc e).1) fun A outer s H vs Q E hr ⟨ds, d, ok, r, e, q⟩ => ?_
  refine ⟨_, hbody A outer s H E hr, ?_⟩
  have e2 := (LL.ifc e).2
  unfold runD at e2
  have e3 : L2.start N vs = vs.map some ++ List.replicate (N.length - ds.length) none := by
    unfold L2.start
    rw [r.length]
  rw [e3]
  cases h1 : S (ds.map some ++ List.replicate (N.length - ds.length) none) with
  | none => rw [h1] at e2; cases e2
  | some o =>
    rw [h1] at e2
    refine ⟨_, o, ok, Rel.start r _, h1, ?_⟩
    cases o with
    | nx ρ =>
      cases e2
      exact fun σ' H' s' k' _ => q _ _ s' k' .non
    | rt d' =>
      cases e2
      exact q
end LL
set_option Elab.async false
set_option linter.all false
set_option maxRecDepth 100000
set_option maxHeartbeats 1000000
set_option autoImplicit false
/-! t * 1 for a tuple. -/
namespace LL
open PySem PySem.Spec PyProof.Rows L2
theorem tuple_mul1 (l : Addr) (items : Array Value) (n : Nat) (dd : Option Addr) (sl : Array (Option Value)) (u : Tok) :
    Meets (Builtin.«tuple.__mul__» ⟨[.ref l, .int 1 u], []⟩) (fun _ R s => s.heap.get? l = some { cls := .type "tuple", dict := dd, data := .seq items n, slots := sl } ∧ R (.ok (.ret (.ref l))) s) :=
  .of_wp fun prog w A R s h => by
    obtain ⟨hp, g, d, tk, os⟩ := s
    obtain ⟨hl, h⟩ := h
    have f1 := AutoSeq1.idx_int
    wp_walk using wpAny_loadPart' hl
    exact ⟨_, rfl, h⟩
variable [Wd]
section
variable {X : Cx} {Ps : List Addr} {a b : Expr} {pos : Pos} {Ea Eb : DEnv → Option PyData}
def rRep1 (K : PySem.W.Frag) : R2 := fun x y H Q => ∃ l xs, x = .ref l ∧ y = .int 1 ∧ SqT K H l xs ∧ Q (.ref l) H
theorem op_rep1 : OpR X (binaryOp .Mult) (rRep1 X.K) := by
  intro pins s σ H x y v u Q I rx ry h
  obtain ⟨l, xs, rfl, rfl, hT, q⟩ := h
  cases rx
  obtain ⟨t, rfl⟩ := ry
  obtain ⟨its, r, ⟨⟨cls, dd, data, sl⟩, ho, hc, n, hd⟩, hs⟩ := I.tuple hT
  simp only at hc hd
  subst hc hd
  refine wpAny_binaryOp_repeat_ref (T := "tuple") (U := "int") (by decide) ⟨_, ho, rfl⟩ (fun s' => typeIs_int s' 1 t) noFill_tuple_mul F.fills_int_mul F.slot_int_rmul repeat_tuple F.slot_int_index.lookup
    (call_meets F.slot_int_rmul (typeIs_int s 1 t) F.entry_int_rmul (F.args_int_rmul_2 _ _) (int_rmul_tuple 1 t l its.toArray n dd sl)
      ⟨ho, rfl, ⟨_, ho, rfl⟩, call_meets F.slot_tuple_mul ⟨_, ho, rfl⟩ F.entry_tuple_mul (F.args_tuple_mul_2 _ _) (tuple_mul1 l its.toArray n dd sl t) ⟨ho, ?_⟩⟩)
  exact ⟨.ref l, H, I, rfl, q⟩
def mulTD : PyData → PyData → Option PyData
  | .tuple a, .int k => if a ≠ [] ∧ 1 ≤ k ∧ k ≤ 1000 ∧ a.length ≤ 1000 then some (.tuple (List.replicate k.toNat a).flatten) else none
  | _, _ => none
theorem pd_mulT (ha : PE X a (tD Ps Ea)) (hb : PE X b (tD Ps Eb)) : PE X (.BinOp a .Mult b pos) (tD Ps (o2 mulTD Ea Eb)) :=
  pd_op (OpR.or op_rep1 op_repT) (fun H x y a b d Q k r1 r2 e q => by
    cases r1 with
    | tup e1 a1 =>
      rename_i xs ds
      cases r2 with
      | int j =>
        obtain ⟨hl, rfl⟩ := ifs (show (if ds ≠ [] ∧ 1 ≤ j ∧ j ≤ 1000 ∧ ds.length ≤ 1000 then some (PyData.tuple (List.replicate j.toNat ds).flatten) else none) = some d from e)
        by_cases hj : j = 1
        · subst hj
          refine .inl ⟨_, _, rfl, rfl, SqT.of e1, ?_⟩
          have : (List.replicate (1 : Int).toNat ds).flatten = ds := by simp
          rw [this] at q
          exact q.here k (.tup e1 a1)
        · refine .inr ⟨_, _, _, rfl, rfl, SqT.of e1, fun z => ?_, by omega, hl.2.2.1, by rw [a1.length]; exact hl.2.2.2, fun p hp => q.tup k (a1.reps _) hp⟩
          subst z
          cases a1
          exact hl.1 rfl
      | _ => cases e
    | _ => cases e) ha hb
theorem pd_asB {e : Expr} {E : DEnv → Option PyData} (h : PE X e (tD Ps E)) : PE X e (tD Ps (oB (o1 asB E))) := pe_imp h fun σ H Q ⟨ρ, d, k, rel, e, q⟩ => by
  obtain ⟨b, e0, e⟩ := Option.bind_eq_some_iff.mp e
  cases e
  obtain ⟨x, e1, e2⟩ := Option.bind_eq_some_iff.mp e0
  cases x <;> simp only [asB] at e2 <;> cases e2
  exact ⟨ρ, _, k, rel, e1, q⟩
theorem pd_call2 {x : Str} {p : Pos} {e : Expr} {es : List Expr} {Es : DEnv → Option (List PyData)} {F : List PyData → Option PyData} {k : Nat} {f : Addr} {fd : FuncData} {ps : List Str}
    (Fn : FnOk X.prog X.w X.K X.mg X.base CX0 k f fd ps (spD Ps F)) (hr : Room k X.A) (hg : Gl X x) (hm : X.mg x = some (.ref f)) (hk : PySem.W.keepIn X.K (.ref f) = true) (hb : ∃ t, Binds X.K fd ps [.int 8 t])
    (ha : PA X (e :: es) (tAs Ps Es)) (hdb : (x == ("__debug__" : Str)) = false := by decide) (he : starEach (e :: es) X.env = (false, eval e X.env) :: starEach es X.env := by rfl) (hpl : (backTo pos (starEach es X.env)).any (·.1) = false := by rfl) :
    PE X (.Call (.Name x p) (e :: es) [] pos) (tD Ps (oL (fun as => F (as ++ [.int 8])) Es)) := by
  obtain ⟨t, hb⟩ := hb
  exact pd_call Fn hr hg hm hk hb (dvs := [.int 8]) (.cons ⟨t, rfl⟩ .nil) (fun _ => .cons (.int 8) .nil) ha hdb he hpl
theorem u64 {k : Nat} {A : Around} (h : Room k A) : A.units + 64 < cLine := by have := h.un; omega
theorem u65 {k : Nat} {A : Around} (h : Room k A) : A.units + 65 < cLine := by have := h.un; omega
theorem u9 {k : Nat} {A : Around} (h : Room k A) : A.units + 9 < cLine := by have := h.un; omega
theorem u8 {k : Nat} {A : Around} (h : Room k A) : A.units + 8 < cLine := by have := h.un; omega
theorem fn_never {P : Program} {w : World} {K : PySem.W.Frag} {mg : Str → Option Value} {base : Heap} {k : Nat} {f : Addr} {fd : FuncData} {ps : List Str} {sp : Sp} (h : ∀ vs H Q E, sp vs H Q E → False) : FnOk P w K mg base CX0 k f fd ps sp :=
  ⟨fun vs H Q E z => (h vs H Q E z).elim, fun A outer s H args us vs Q E _ _ _ _ z => (h vs H Q E z).elim⟩
end
end LL
set_option Elab.async false
set_option linter.all false
set_option maxRecDepth 100000
set_option maxHeartbeats 4000000
set_option autoImplicit false
/-! The defs as functions on data (printed by gen1.py). -/
namespace LL
open PySem PySem.Spec PyProof.Rows L2
/-! is_number -/
def S_is_number : DEnv → Option Out :=
  (sRt (oB (oAnd (o1 (isaD "int") (oV 0)) (oAnd (oNot (o1 (isaD "bool") (oV 0))) (oCh leD leD (oV 1) (oV 0) (oV 2))))))
def F_is_number : List PyData → Option PyData := fnD 3 3 S_is_number
/-! need_machine -/
def own_need_machine_0 : List (Str × Nat) := [("reads", 3)]
def S_need_machine : DEnv → Option Out :=
  (sThen (sIf (oOr (oNot (o1 (isaD "tuple") (oV 0))) (o2 neD (o1 lenD (oV 0)) (oC (.int 2)))) sNo sNx)
    (sThen (sA (oV 0) (gTupD 2 (gConsD (gN 1) (gConsD (gN 2) gNilD))))
    (sThen (sIf (oNot (o1 asB (oL (fun as => F_is_number (as ++ [])) (oCons (oV 1) (oCons (oC (.int 1)) (oCons (oC (.int 4)) oNil)))))) sNo sNx)
    (sThen (sIf (oOr (oNot (o1 (isaD "tuple") (oV 2))) (oNot (oCh leD leD (oC (.int 1)) (o1 lenD (oV 2)) (oC (.int 3))))) sNo sNx)
    (sIf (oNot (oQu true (o1 iT (oV 2)) (own_need_machine_0.map (·.2)) (gN 3) (oL (fun as => F_is_number (as ++ [])) (oCons (oV 3) (oCons (oC (.int 1)) (oCons (oC (.int 2)) oNil)))))) sNo sNx)))))
def F_need_machine : List PyData → Option PyData := fnD 1 4 S_need_machine
/-! is_line -/
def own_is_line_0 : List (Str × Nat) := [("source", 7)]
def S_is_line : DEnv → Option Out :=
  (sThen (sA (oV 0) (gTupD 2 (gConsD (gN 6) (gConsD (gN 2) gNilD))))
    (sThen (sIf (oOr (oNot (o1 (isaD "tuple") (oV 1))) (oOr (o2 neD (o1 lenD (oV 1)) (oC (.int 3))) (oNot (o1 asB (oL (fun as => F_is_number (as ++ [])) (oCons (o2 ixD (oV 1) (oC (.int 0))) (oCons (oC (.int 0)) (oCons (o2 subD (oV 6) (oC (.int 1))) oNil)))))))) (sRt (oC (.bool false))) sNx)
    (sThen (sA (oV 1) (gTupD 3 (gConsD (gN 3) (gConsD (gN 4) (gConsD (gN 5) gNilD)))))
    (sThen (sIf (oOr (oNot (o1 (isaD "tuple") (oV 5))) (oNot (oQu true (o1 iT (oV 5)) (own_is_line_0.map (·.2)) (gN 7) (oL (fun as => F_is_number (as ++ [])) (oCons (oV 7) (oCons (oC (.int 0)) (oCons (o2 subD (oV 6) (oC (.int 1))) oNil))))))) (sRt (oC (.bool false))) sNx)
    (sThen (sIf (o2 isD (oV 4) (oC .none)) (sRt (oB (oAnd (o2 eqD (o1 lenD (oV 5)) (oC (.int 1))) (o2 neD (o2 ixD (oV 5) (oC (.int 0))) (oV 3))))) sNx)
    (sRt (oB (oAnd (o1 asB (oL (fun as => F_is_number (as ++ [])) (oCons (oV 4) (oCons (oC (.int 0)) (oCons (o2 subD (o1 lenD (oV 2)) (oC (.int 1))) oNil))))) (o2 eqD (o1 lenD (oV 5)) (o2 ixD (oV 2) (oV 4)))))))))))
def F_is_line : List PyData → Option PyData := fnD 2 8 S_is_line
/-! need_program -/
def S_need_program : DEnv → Option Out :=
  (sThen (sIf (oOr (oNot (o1 (isaD "tuple") (oV 1))) (o2 gtD (o1 lenD (oV 1)) (oC (.int 60)))) sNo sNx)
    (sFor (o1 iEn (oV 1)) (gTupD 2 (gConsD (gN 2) (gConsD (gN 3) gNilD))) (sIf (oNot (o1 asB (oL (fun as => F_is_line (as ++ [])) (oCons (oV 0) (oCons (oV 3) oNil))))) sNo sNx)))
def F_need_program : List PyData → Option PyData := fnD 2 4 S_need_program
/-! depth -/
def own_depth_0 : List (Str × Nat) := [("part", 1)]
def S_depth (F : List PyData → Option PyData) : DEnv → Option Out :=
  (sRt (oIf (o1 (isaD "tuple") (oV 0)) (o2 addD (oC (.int 1)) (o1 maxD (oLc (o1 iT (oSl (oV 0) (oP (oC (.int 1))) oNoP)) (own_depth_0.map (·.2)) (gN 1) oYes (oL (fun as => F (as ++ [])) (oCons (oV 1) oNil))))) (oC (.int 1))))
def F_depth : Nat → List PyData → Option PyData
  | 0 => fun _ => none
  | n + 1 => fnD 1 2 (S_depth (F_depth n))
/-! is_term -/
def own_is_term_0 : List (Str × Nat) := [("part", 5)]
def S_is_term (F : List PyData → Option PyData) : DEnv → Option Out :=
  (sThen (sA (oV 0) (gTupD 2 (gConsD (gN 3) (gConsD (gN 4) gNilD))))
    (sThen (sIf (oNot (o1 (isaD "tuple") (oV 1))) (sRt (oL (fun as => F_is_number (as ++ [])) (oCons (oV 1) (oCons (oC (.int 0)) (oCons (o2 subD (oV 3) (oC (.int 1))) oNil))))) sNx)
    (sThen (sIf (oOr (o2 ltD (oV 2) (oC (.int 2))) (oOr (oNot (o1 truD (oV 1))) (oNot (o1 asB (oL (fun as => F_is_number (as ++ [])) (oCons (o2 ixD (oV 1) (oC (.int 0))) (oCons (oC (.int 0)) (oCons (o2 subD (o1 lenD (oV 4)) (oC (.int 1))) oNil)))))))) (sRt (oC (.bool false))) sNx)
    (sThen (sIf (o2 neD (o1 lenD (oV 1)) (o2 addD (oC (.int 1)) (o2 ixD (oV 4) (o2 ixD (oV 1) (oC (.int 0)))))) (sRt (oC (.bool false))) sNx)
    (sRt (oB (oQu true (o1 iT (oSl (oV 1) (oP (oC (.int 1))) oNoP)) (own_is_term_0.map (·.2)) (gN 5) (oL (fun as => F (as ++ [])) (oCons (oV 0) (oCons (oV 5) (oCons (o2 subD (oV 2) (oC (.int 1))) oNil)))))))))))
def F_is_term : Nat → List PyData → Option PyData
  | 0 => fun _ => none
  | n + 1 => fnD 3 6 (S_is_term (F_is_term n))
/-! first_terms -/
def S_first_terms : DEnv → Option Out :=
  (sRt (oRg1 (o2 ixD (oV 0) (oC (.int 0)))))
def F_first_terms : List PyData → Option PyData := fnD 1 1 S_first_terms
/-! done -/
def own_done_0 : List (Str × Nat) := [("source", 6)]
def S_done : DEnv → Option Out :=
  (sThen (sA (oV 1) (gTupD 3 (gConsD (gN 2) (gConsD (gN 3) (gConsD (gN 4) gNilD)))))
    (sThen (sIf (o2 isD (oV 3) (oC .none)) (sA (o2 ixD (oV 0) (o2 ixD (oV 4) (oC (.int 0)))) (gN 5)) (sThen (sA (o2 addD (oL mkT (oCons (oV 3) oNil)) (o1 tupD (oLc (o1 iT (oV 4)) (own_done_0.map (·.2)) (gN 6) oYes (o2 ixD (oV 0) (oV 6))))) (gN 5))
    (sIf (o2 gtD (oL (fun as => (F_depth 12) (as ++ [])) (oCons (oV 5) oNil)) (oC (.int 8))) sNo sNx)))
    (sRt (o2 addD (o2 addD (oSl (oV 0) oNoP (oP (oV 2))) (oL mkT (oCons (oV 5) oNil))) (oSl (oV 0) (oP (o2 addD (oV 2) (oC (.int 1)))) oNoP)))))
def F_done : List PyData → Option PyData := fnD 2 7 S_done
/-! need_many -/
def S_need_many : DEnv → Option Out :=
  (sIf (oNot (o1 asB (oL (fun as => F_is_number (as ++ [])) (oCons (oV 0) (oCons (oC (.int 1)) (oCons (oC (.int 3)) oNil)))))) sNo sNx)
def F_need_many : List PyData → Option PyData := fnD 1 1 S_need_many
/-! are_losses -/
def own_are_losses_0 : List (Str × Nat) := [("index", 3)]
def own_are_losses_1 : List (Str × Nat) := [("one", 4), ("other", 5)]
def own_are_losses_2 : List (Str × Nat) := [("place", 6)]
def S_are_losses : DEnv → Option Out :=
  (sThen (sIf (oOr (oNot (o1 (isaD "tuple") (oV 2))) (oNot (oQu true (o1 iT (oV 2)) (own_are_losses_0.map (·.2)) (gN 3) (oL (fun as => F_is_number (as ++ [])) (oCons (oV 3) (oCons (oC (.int 0)) (oCons (o2 subD (o1 lenD (oV 0)) (oC (.int 1))) oNil))))))) (sRt (oC (.bool false))) sNx)
    (sThen (sIf (oNot (oQu true (o2 iZp (oV 2) (oSl (oV 2) (oP (oC (.int 1))) oNoP)) (own_are_losses_1.map (·.2)) (gTupD 2 (gConsD (gN 4) (gConsD (gN 5) gNilD))) (oB (o2 ltD (oV 4) (oV 5))))) (sRt (oC (.bool false))) sNx)
    (sRt (oB (oNot (oQu false (o1 iR1 (o2 subD (o1 lenD (oV 2)) (oV 1))) (own_are_losses_2.map (·.2)) (gN 6) (oB (o2 eqD (o2 subD (o2 ixD (oV 2) (o2 addD (oV 6) (oV 1))) (o2 ixD (oV 2) (oV 6))) (oV 1)))))))))
def F_are_losses : List PyData → Option PyData := fnD 3 7 S_are_losses
/-! lost_behind -/
def S_lost_behind : DEnv → Option Out :=
  (sThen (sFor (o1 iEn (oV 1)) (gTupD 2 (gConsD (gN 3) (gConsD (gN 4) gNilD))) (sIf (o2 (fun a b => (inD a b).map (!·)) (oV 3) (oV 2)) (sA (oL (fun as => F_done (as ++ [])) (oCons (oV 0) (oCons (oV 4) oNil))) (gN 0)) sNx))
    (sRt (oV 0)))
def F_lost_behind : List PyData → Option PyData := fnD 3 5 S_lost_behind
/-! sure_of -/
def own_sure_of_0 : List (Str × Nat) := [("held", 3), ("_", 4)]
def S_sure_of : DEnv → Option Out :=
  (sThen (sA (oDc (o1 iKyD (oV 0)) (own_sure_of_0.map (·.2)) (gTupD 2 (gConsD (gN 3) (gConsD (gN 4) gNilD))) (o2 ixD (oV 3) (oV 1)) (oC (.bool true))) (gN 2))
    (sRt (oIf (o2 eqD (o1 lenDD (oV 2)) (oC (.int 1))) (o2 ixD (o1 lstD (oV 2)) (oC (.int 0))) (oC .none))))
def F_sure_of : List PyData → Option PyData := fnD 2 5 S_sure_of
/-! is_wish -/
def S_is_wish : DEnv → Option Out :=
  (sThen (sIf (oOr (oNot (o1 (isaD "tuple") (oV 1))) (oOr (o2 neD (o1 lenD (oV 1)) (oC (.int 2))) (oNot (o1 asB (oL (fun as => F_is_number (as ++ [])) (oCons (o2 ixD (oV 1) (oC (.int 0))) (oCons (oC (.int 0)) (oCons (o2 subD (o2 ixD (oV 0) (oC (.int 0))) (oC (.int 1))) oNil)))))))) (sRt (oC (.bool false))) sNx)
    (sRt (oL (fun as => (F_is_term 9) (as ++ [.int 8])) (oCons (oV 0) (oCons (o2 ixD (oV 1) (oC (.int 1))) oNil)))))
def F_is_wish : List PyData → Option PyData := fnD 2 2 S_is_wish
/-! need_wishes -/
def S_need_wishes : DEnv → Option Out :=
  (sThen (sIf (oOr (oNot (o1 (isaD "tuple") (oV 1))) (oNot (o1 truD (oV 1)))) sNo sNx)
    (sFor (o1 iEn (oV 1)) (gTupD 2 (gConsD (gN 2) (gConsD (gN 3) gNilD))) (sIf (oOr (oNot (o1 asB (oL (fun as => F_is_wish (as ++ [])) (oCons (oV 0) (oCons (oV 3) oNil))))) (oAnd (o2 gtD (oV 2) (oC (.int 0))) (o2 geD (o2 ixD (o2 ixD (oV 1) (o2 subD (oV 2) (oC (.int 1)))) (oC (.int 0))) (o2 ixD (oV 3) (oC (.int 0)))))) sNo sNx)))
def F_need_wishes : List PyData → Option PyData := fnD 2 4 S_need_wishes
/-! fulfilled -/
def own_fulfilled_0 : List (Str × Nat) := [("cell", 2), ("term", 3)]
def S_fulfilled : DEnv → Option Out :=
  (sRt (oB (oQu true (o1 iT (oV 1)) (own_fulfilled_0.map (·.2)) (gTupD 2 (gConsD (gN 2) (gConsD (gN 3) gNilD))) (oB (o2 eqD (o2 ixD (oV 0) (oV 2)) (oV 3))))))
def F_fulfilled : List PyData → Option PyData := fnD 2 4 S_fulfilled
/-! need_wished -/
def S_need_wished : DEnv → Option Out :=
  (sThen (sEx (oL (fun as => F_need_machine (as ++ [])) (oCons (oV 0) oNil)))
    (sThen (sEx (oL (fun as => F_need_program (as ++ [])) (oCons (oV 0) (oCons (oV 1) oNil))))
    (sThen (sEx (oL (fun as => F_need_many (as ++ [])) (oCons (oV 2) oNil)))
    (sEx (oL (fun as => F_need_wishes (as ++ [])) (oCons (oV 0) (oCons (oV 3) oNil)))))))
def F_need_wished : List PyData → Option PyData := fnD 4 4 S_need_wished
/-! _law_did -/
def own_law_did_0 : List (Str × Nat) := [("_law_one", 6)]
def S_law_did : DEnv → Option Out :=
  (sThen (sA (oV 1) (gTupD 3 (gConsD (gN 2) (gConsD (gN 3) (gConsD (gN 4) gNilD)))))
    (sThen (sA (oIf (o2 isD (oV 3) (oC .none)) (o2 ixD (oV 0) (o2 ixD (oV 4) (oC (.int 0)))) (o2 addD (oL mkT (oCons (oV 3) oNil)) (o1 tupD (oLc (o1 iT (oV 4)) (own_law_did_0.map (·.2)) (gN 6) oYes (o2 ixD (oV 0) (oV 6)))))) (gN 5))
    (sRt (o2 addD (o2 addD (oSl (oV 0) oNoP (oP (oV 2))) (oL mkT (oCons (oV 5) oNil))) (oSl (oV 0) (oP (o2 addD (oV 2) (oC (.int 1)))) oNoP)))))
def F_law_did : List PyData → Option PyData := fnD 2 7 S_law_did
/-! _law_deep -/
def own_law_deep_0 : List (Str × Nat) := [("_law_part", 1)]
def S_law_deep (F : List PyData → Option PyData) : DEnv → Option Out :=
  (sThen (sIf (oNot (o1 (isaD "tuple") (oV 0))) (sRt (oC (.int 1))) sNx)
    (sRt (o2 addD (oC (.int 1)) (o1 maxD (oLc (o1 iT (oSl (oV 0) (oP (oC (.int 1))) oNoP)) (own_law_deep_0.map (·.2)) (gN 1) oYes (oL (fun as => F (as ++ [])) (oCons (oV 1) oNil)))))))
def F_law_deep : Nat → List PyData → Option PyData
  | 0 => fun _ => none
  | n + 1 => fnD 1 2 (S_law_deep (F_law_deep n))
/-! _law_tame -/
def own_law_tame_0 : List (Str × Nat) := [("_law_term", 6)]
def S_law_tame : DEnv → Option Out :=
  (sThen (sPar 2 3 (oRg1 (o2 ixD (oV 0) (oC (.int 0)))) (oL mkT oNil))
    (sThen (sFor (o1 iT (oV 1)) (gN 4) (sThen (sA (oL (fun as => F_law_did (as ++ [])) (oCons (oV 2) (oCons (oV 4) oNil))) (gN 5))
    (sIf (o2 ltD (o1 maxD (oLc (o1 iT (oV 5)) (own_law_tame_0.map (·.2)) (gN 6) oYes (oL (fun as => (F_law_deep 12) (as ++ [])) (oCons (oV 6) oNil)))) (oC (.int 6))) (sPar 2 3 (oV 5) (o2 addD (oV 3) (oL mkT (oCons (oV 4) oNil)))) sNx)))
    (sRt (oV 3))))
def F_law_tame : List PyData → Option PyData := fnD 2 7 S_law_tame
/-! _law_times -/
def S_law_times : DEnv → Option Out :=
  (sThen (sA (oL mkT oNil) (gN 2))
    (sThen (sFor (o1 iT (oV 0)) (gN 3) (sA (o2 addD (oV 2) (o2 mulTD (oL mkT (oCons (oV 3) oNil)) (oV 1))) (gN 2)))
    (sRt (oV 2))))
def F_law_times : List PyData → Option PyData := fnD 2 4 S_law_times
/-! _law_ran -/
def own_law_ran_0 : List (Str × Nat) := [("_law_term", 6)]
def S_law_ran : DEnv → Option Out :=
  (sThen (sA (oRg1 (o2 ixD (oV 0) (oC (.int 0)))) (gN 3))
    (sThen (sFor (o1 iEn (oV 1)) (gTupD 2 (gConsD (gN 4) (gConsD (gN 5) gNilD))) (sIf (o2 (fun a b => (inD a b).map (!·)) (oV 4) (oV 2)) (sThen (sA (oL (fun as => F_law_did (as ++ [])) (oCons (oV 3) (oCons (oV 5) oNil))) (gN 3))
    (sIf (o2 gtD (o1 maxD (oLc (o1 iT (oV 3)) (own_law_ran_0.map (·.2)) (gN 6) oYes (oL (fun as => (F_law_deep 12) (as ++ [])) (oCons (oV 6) oNil)))) (oC (.int 8))) (sRt (oC .none)) sNx)) sNx))
    (sRt (oV 3))))
def F_law_ran : List PyData → Option PyData := fnD 3 7 S_law_ran
/-! _law_alike -/
def own_law_alike_0 : List (Str × Nat) := [("_law_k", 2)]
def S_law_alike (F : List PyData → Option PyData) : DEnv → Option Out :=
  (sThen (sIf (o1 (isa2D "tuple" "list") (oV 1)) (sThen (sIf (oOr (oNot (o1 (isa2D "tuple" "list") (oV 0))) (o2 neD (oB (o1 (isaD "list") (oV 0))) (oB (o1 (isaD "list") (oV 1))))) (sRt (oC (.bool false))) sNx)
    (sThen (sIf (o2 neD (o1 lenD (oV 0)) (o1 lenD (oV 1))) (sRt (oC (.bool false))) sNx)
    (sRt (oB (o2 eqD (oLc (o1 iR1 (o1 lenD (oV 1))) (own_law_alike_0.map (·.2)) (gN 2) (oNot (o1 asB (oL (fun as => F (as ++ [])) (oCons (o2 ixD (oV 0) (oV 2)) (oCons (o2 ixD (oV 1) (oV 2)) oNil))))) (oV 2)) (oL mkL oNil)))))) sNx)
    (sThen (sIf (oOr (o2 isD (oV 1) (oC .none)) (o1 (isaD "str") (oV 1))) (sRt (oB (oAnd (o2 eqD (oV 0) (oV 1)) (o2 eqD (oB (o1 (isaD "str") (oV 0))) (oB (o1 (isaD "str") (oV 1))))))) sNx)
    (sRt (oB (oAnd (o1 (isaD "int") (oV 0)) (oAnd (o2 eqD (oB (o1 (isaD "bool") (oV 0))) (oB (o1 (isaD "bool") (oV 1)))) (o2 eqD (oV 0) (oV 1))))))))
def F_law_alike : Nat → List PyData → Option PyData
  | 0 => fun _ => none
  | n + 1 => fnD 2 3 (S_law_alike (F_law_alike n))
/-! _law_bad -/
def own_law_bad_0 : List (Str × Nat) := [("_law_cell", 5), ("_law_term", 6)]
def S_law_bad : DEnv → Option Out :=
  (sThen (sA (oL (fun as => F_law_ran (as ++ [])) (oCons (oV 0) (oCons (oV 1) (oCons (oV 2) oNil)))) (gN 4))
    (sRt (oB (o2 neD (oLc (o1 iT (oV 3)) (own_law_bad_0.map (·.2)) (gTupD 2 (gConsD (gN 5) (gConsD (gN 6) gNilD))) (o2 neD (o2 ixD (oV 4) (oV 5)) (oV 6)) (oC (.int 1))) (oL mkL oNil)))))
def F_law_bad : List PyData → Option PyData := fnD 4 7 S_law_bad
/-! _law_repeats -/
def S_law_repeats : DEnv → Option Out :=
  (sThen (sA (oL mkL (oCons (oRg1 (o2 ixD (oV 0) (oC (.int 0)))) oNil)) (gN 3))
    (sThen (sFor (o1 iT (oV 1)) (gN 4) (sThen (sA (oL mkL oNil) (gN 5))
    (sThen (sFor (o1 iL (oV 3)) (gN 6) (sFor (o1 iR1 (o2 addD (oV 2) (oC (.int 1)))) (gN 7) (sThen (sA (oL (fun as => F_law_did (as ++ [])) (oCons (oV 6) (oCons (oV 4) oNil))) (gN 6))
    (sA (o2 addD (oV 5) (oIf (o2 (fun a b => (inD a b).map (!·)) (oV 6) (oV 5)) (oL mkL (oCons (oV 6) oNil)) (oL mkL oNil))) (gN 5)))))
    (sA (oV 5) (gN 3)))))
    (sRt (oV 3))))
def F_law_repeats : List PyData → Option PyData := fnD 3 8 S_law_repeats
end LL
set_option Elab.async false
set_option linter.all false
set_option maxRecDepth 100000
set_option maxHeartbeats 4000000
set_option autoImplicit false
/-! The text by places, what its top tells (printed by gen1.py). -/
namespace LL
open PySem PySem.Spec PyProof.Rows L2
variable [Wd]
def topS (i : Nat) : Stmt := PySem.Challenge.pw_lostlines_k02_whole_sure.main.body.getD i (.Pass ⟨0, 0, 0, 0⟩)
abbrev st_is_number : Stmt := topS 13
abbrev N_is_number : List Str := ["value", "low", "high"]
abbrev st_need_machine : Stmt := topS 14
abbrev N_need_machine : List Str := ["value", "cells", "functions", "reads"]
abbrev st_is_line : Stmt := topS 15
abbrev N_is_line : List Str := ["machine", "value", "functions", "cell", "function", "sources", "cells", "source"]
abbrev st_need_program : Stmt := topS 16
abbrev N_need_program : List Str := ["machine", "value", "index", "line"]
abbrev st_depth : Stmt := topS 17
abbrev N_depth : List Str := ["term", "part"]
abbrev st_is_term : Stmt := topS 18
abbrev N_is_term : List Str := ["machine", "value", "deep", "cells", "functions", "part"]
abbrev st_first_terms : Stmt := topS 19
abbrev N_first_terms : List Str := ["machine"]
abbrev st_done : Stmt := topS 20
abbrev N_done : List Str := ["held", "line", "cell", "function", "sources", "term", "source"]
abbrev st_need_many : Stmt := topS 24
abbrev N_need_many : List Str := ["value"]
abbrev st_are_losses : Stmt := topS 25
abbrev N_are_losses : List Str := ["program", "many", "value", "index", "one", "other", "place"]
abbrev st_lost_behind : Stmt := topS 26
abbrev N_lost_behind : List Str := ["held", "program", "losses", "index", "line"]
abbrev st_sure_of : Stmt := topS 29
abbrev N_sure_of : List Str := ["every", "cell", "terms", "held", "_"]
abbrev st_is_wish : Stmt := topS 31
abbrev N_is_wish : List Str := ["machine", "value"]
abbrev st_need_wishes : Stmt := topS 32
abbrev N_need_wishes : List Str := ["machine", "value", "index", "wish"]
abbrev st_fulfilled : Stmt := topS 33
abbrev N_fulfilled : List Str := ["held", "wishes", "cell", "term"]
abbrev st_need_wished : Stmt := topS 34
abbrev N_need_wished : List Str := ["machine", "program", "many", "wishes"]
abbrev st_law_did : Stmt := topS 44
abbrev N_law_did : List Str := ["_law_held", "_law_line", "_law_cell", "_law_function", "_law_sources", "_law_term", "_law_one"]
abbrev st_law_deep : Stmt := topS 45
abbrev N_law_deep : List Str := ["_law_term", "_law_part"]
abbrev st_law_tame : Stmt := topS 46
abbrev N_law_tame : List Str := ["_law_machine_here", "_law_program_here", "_law_held", "_law_found", "_law_line", "_law_after", "_law_term"]
abbrev st_law_times : Stmt := topS 50
abbrev N_law_times : List Str := ["_law_program_here", "_law_many", "_law_found", "_law_line"]
abbrev st_law_ran : Stmt := topS 51
abbrev N_law_ran : List Str := ["_law_machine_here", "_law_program_here", "_law_losses", "_law_held", "_law_at", "_law_line", "_law_term"]
abbrev st_law_alike : Stmt := topS 54
abbrev N_law_alike : List Str := ["_law_found", "_law_due", "_law_k"]
abbrev st_law_bad : Stmt := topS 55
abbrev N_law_bad : List Str := ["_law_machine_here", "_law_program_here", "_law_losses", "_law_wishes_here", "_law_held", "_law_cell", "_law_term"]
abbrev st_law_repeats : Stmt := topS 56
abbrev N_law_repeats : List Str := ["_law_machine_here", "_law_program_here", "_law_many", "_law_found", "_law_line", "_law_later", "_law_held", "_law_time"]
abbrev st_all_moments : Stmt := topS 27
abbrev N_all_moments : List Str := ["machine", "program", "many", "found", "index", "line", "later", "held", "last", "losses"]
abbrev st_keep : Stmt := topS 28
abbrev N_keep : List Str := ["later", "pair", "losses"]
abbrev st_sure_terms : Stmt := topS 30
abbrev N_sure_terms : List Str := ["machine", "program", "many", "moments", "every", "cell"]
abbrev st_least_harm : Stmt := topS 35
abbrev N_least_harm : List Str := ["machine", "program", "many", "wishes", "last", "bad", "held", "_", "losses"]
abbrev st_is_proof : Stmt := topS 36
abbrev N_is_proof : List Str := ["machine", "program", "many", "wishes"]
abbrev st_harm : Stmt := topS 37
abbrev N_harm : List Str := ["machine", "program", "many", "wishes"]
abbrev st_shows_harm : Stmt := topS 38
abbrev N_shows_harm : List Str := ["machine", "program", "many", "wishes", "value", "due"]
abbrev st_repeated_ends : Stmt := topS 39
abbrev N_repeated_ends : List Str := ["machine", "program", "many", "found", "line", "later", "held", "_"]
abbrev st_is_repeat_proof : Stmt := topS 40
abbrev N_is_repeat_proof : List Str := ["machine", "program", "many", "wishes", "held"]
abbrev st_law_taken : Stmt := topS 42
abbrev N_law_taken : List Str := ["_law_row", "_law_many", "_law_found", "_law_cell"]
abbrev st_law_machine : Stmt := topS 43
abbrev N_law_machine : List Str := ["_law_row", "_law_cells", "_law_many", "_law_function"]
abbrev st_law_every_line : Stmt := topS 47
abbrev N_law_every_line : List Str := ["_law_machine_here", "_law_cells", "_law_functions", "_law_found", "_law_cell", "_law_function", "_law_reads", "_law_one", "_law_other"]
abbrev st_law_pick : Stmt := topS 48
abbrev N_law_pick : List Str := ["_law_row", "_law_things"]
abbrev st_law_program : Stmt := topS 49
abbrev N_law_program : List Str := ["_law_row", "_law_machine_here", "_law_many", "_law_lines", "_law_turn"]
abbrev st_law_wishes : Stmt := topS 52
abbrev N_law_wishes : List Str := ["_law_row", "_law_machine_here", "_law_program_here", "_law_held", "_law_some", "_law_cell"]
abbrev st_law_every_loss : Stmt := topS 53
abbrev N_law_every_loss : List Str := ["_law_size", "_law_many", "_law_found", "_law_at", "_law_more", "_law_losses"]
abbrev st_law : Stmt := topS 57
abbrev N_law : List Str := ["_law_script", "_law_row", "_law_machine_here", "_law_program_here", "_law_many", "_law_wishes_here", "_law_held", "_law_cell", "_law_sure", "_law_moment", "_law_ends", "_law_terms", "_law_every", "_law_bad_here", "_law_least", "_law_found", "_law_turn", "_law_value", "_law_fine", "_law_due", "_law_losses", "_law_one", "_law_term"]
/-- what the names of the top are -/
structure Glo (mg : Str → Option Value) : Prop where
  len : mg "len" = none
  max : mg "max" = none
  min : mg "min" = none
  all : mg "all" = none
  any : mg "any" = none
  tuple : mg "tuple" = none
  list : mg "list" = none
  range : mg "range" = none
  isinstance : mg "isinstance" = none
  enumerate : mg "enumerate" = none
  zip : mg "zip" = none
  int : mg "int" = none
  bool : mg "bool" = none
  str : mg "str" = none
  c_MOST_CELLS : ∃ t, mg "MOST_CELLS" = some (.int 4 t)
  c_MOST_FUNCTIONS : ∃ t, mg "MOST_FUNCTIONS" = some (.int 3 t)
  c_MOST_READ : ∃ t, mg "MOST_READ" = some (.int 2 t)
  c_MOST_LINES : ∃ t, mg "MOST_LINES" = some (.int 60 t)
  c_MOST_DEEP : ∃ t, mg "MOST_DEEP" = some (.int 8 t)
  c_MOST_LOST : ∃ t, mg "MOST_LOST" = some (.int 3 t)
  c_MOST_PAIRS : ∃ t, mg "MOST_PAIRS" = some (.int 3000 t)
section
variable {K : PySem.W.Frag} {mg : Str → Option Value}
theorem bi_is_number (D : DefAt K mg "is_number" st_is_number) : Binds K D.fd ["value", "low", "high"] [] := by
  obtain ⟨oc, od, kV, doc, pm, an, ct, osl, e, _⟩ := D.ok.ex
  rw [e]
  exact .all fun us hl => match us, hl with | [_, _, _], _ => rfl
theorem bi_need_machine (D : DefAt K mg "need_machine" st_need_machine) : Binds K D.fd ["value"] [] := by
  obtain ⟨oc, od, kV, doc, pm, an, ct, osl, e, _⟩ := D.ok.ex
  rw [e]
  exact .all fun us hl => match us, hl with | [_], _ => rfl
theorem bi_is_line (D : DefAt K mg "is_line" st_is_line) : Binds K D.fd ["machine", "value"] [] := by
  obtain ⟨oc, od, kV, doc, pm, an, ct, osl, e, _⟩ := D.ok.ex
  rw [e]
  exact .all fun us hl => match us, hl with | [_, _], _ => rfl
theorem bi_need_program (D : DefAt K mg "need_program" st_need_program) : Binds K D.fd ["machine", "value"] [] := by
  obtain ⟨oc, od, kV, doc, pm, an, ct, osl, e, _⟩ := D.ok.ex
  rw [e]
  exact .all fun us hl => match us, hl with | [_, _], _ => rfl
theorem bi_depth (D : DefAt K mg "depth" st_depth) : Binds K D.fd ["term"] [] := by
  obtain ⟨oc, od, kV, doc, pm, an, ct, osl, e, _⟩ := D.ok.ex
  rw [e]
  exact .all fun us hl => match us, hl with | [_], _ => rfl
theorem bi_is_term (D : DefAtD K mg "is_term" st_is_term 8) : Binds K D.fd ["machine", "value", "deep"] [] := by
  obtain ⟨oc, od, kV, doc, pm, an, ct, osl, e, _⟩ := D.ok.ex
  rw [e]
  intro s us X hl
  rw [List.append_nil] at hl ⊢
  match us, hl with
  | [a, b, c], _ => exact BindsTo.of_defaults rfl (X _ _ D.lk) D.dat rfl rfl
theorem bi_is_term2 (D : DefAtD K mg "is_term" st_is_term 8) : ∃ t, Binds K D.fd ["machine", "value", "deep"] [.int 8 t] := by
  obtain ⟨oc, od, kV, doc, pm, an, ct, osl, e, _⟩ := D.ok.ex
  refine ⟨D.t, ?_⟩
  rw [e]
  intro s us X hl
  have hl : us.length = 2 := by simpa using hl
  match us, hl with
  | [a, b], _ => exact BindsTo.of_defaults rfl (X _ _ D.lk) D.dat rfl rfl
theorem bi_first_terms (D : DefAt K mg "first_terms" st_first_terms) : Binds K D.fd ["machine"] [] := by
  obtain ⟨oc, od, kV, doc, pm, an, ct, osl, e, _⟩ := D.ok.ex
  rw [e]
  exact .all fun us hl => match us, hl with | [_], _ => rfl
theorem bi_done (D : DefAt K mg "done" st_done) : Binds K D.fd ["held", "line"] [] := by
  obtain ⟨oc, od, kV, doc, pm, an, ct, osl, e, _⟩ := D.ok.ex
  rw [e]
  exact .all fun us hl => match us, hl with | [_, _], _ => rfl
theorem bi_need_many (D : DefAt K mg "need_many" st_need_many) : Binds K D.fd ["value"] [] := by
  obtain ⟨oc, od, kV, doc, pm, an, ct, osl, e, _⟩ := D.ok.ex
  rw [e]
  exact .all fun us hl => match us, hl with | [_], _ => rfl
theorem bi_are_losses (D : DefAt K mg "are_losses" st_are_losses) : Binds K D.fd ["program", "many", "value"] [] := by
  obtain ⟨oc, od, kV, doc, pm, an, ct, osl, e, _⟩ := D.ok.ex
  rw [e]
  exact .all fun us hl => match us, hl with | [_, _, _], _ => rfl
theorem bi_lost_behind (D : DefAt K mg "lost_behind" st_lost_behind) : Binds K D.fd ["held", "program", "losses"] [] := by
  obtain ⟨oc, od, kV, doc, pm, an, ct, osl, e, _⟩ := D.ok.ex
  rw [e]
  exact .all fun us hl => match us, hl with | [_, _, _], _ => rfl
theorem bi_sure_of (D : DefAt K mg "sure_of" st_sure_of) : Binds K D.fd ["every", "cell"] [] := by
  obtain ⟨oc, od, kV, doc, pm, an, ct, osl, e, _⟩ := D.ok.ex
  rw [e]
  exact .all fun us hl => match us, hl with | [_, _], _ => rfl
theorem bi_is_wish (D : DefAt K mg "is_wish" st_is_wish) : Binds K D.fd ["machine", "value"] [] := by
  obtain ⟨oc, od, kV, doc, pm, an, ct, osl, e, _⟩ := D.ok.ex
  rw [e]
  exact .all fun us hl => match us, hl with | [_, _], _ => rfl
theorem bi_need_wishes (D : DefAt K mg "need_wishes" st_need_wishes) : Binds K D.fd ["machine", "value"] [] := by
  obtain ⟨oc, od, kV, doc, pm, an, ct, osl, e, _⟩ := D.ok.ex
  rw [e]
  exact .all fun us hl => match us, hl with | [_, _], _ => rfl
theorem bi_fulfilled (D : DefAt K mg "fulfilled" st_fulfilled) : Binds K D.fd ["held", "wishes"] [] := by
  obtain ⟨oc, od, kV, doc, pm, an, ct, osl, e, _⟩ := D.ok.ex
  rw [e]
  exact .all fun us hl => match us, hl with | [_, _], _ => rfl
theorem bi_need_wished (D : DefAt K mg "need_wished" st_need_wished) : Binds K D.fd ["machine", "program", "many", "wishes"] [] := by
  obtain ⟨oc, od, kV, doc, pm, an, ct, osl, e, _⟩ := D.ok.ex
  rw [e]
  exact .all fun us hl => match us, hl with | [_, _, _, _], _ => rfl
theorem bi_law_did (D : DefAt K mg "_law_did" st_law_did) : Binds K D.fd ["_law_held", "_law_line"] [] := by
  obtain ⟨oc, od, kV, doc, pm, an, ct, osl, e, _⟩ := D.ok.ex
  rw [e]
  exact .all fun us hl => match us, hl with | [_, _], _ => rfl
theorem bi_law_deep (D : DefAt K mg "_law_deep" st_law_deep) : Binds K D.fd ["_law_term"] [] := by
  obtain ⟨oc, od, kV, doc, pm, an, ct, osl, e, _⟩ := D.ok.ex
  rw [e]
  exact .all fun us hl => match us, hl with | [_], _ => rfl
theorem bi_law_tame (D : DefAt K mg "_law_tame" st_law_tame) : Binds K D.fd ["_law_machine_here", "_law_program_here"] [] := by
  obtain ⟨oc, od, kV, doc, pm, an, ct, osl, e, _⟩ := D.ok.ex
  rw [e]
  exact .all fun us hl => match us, hl with | [_, _], _ => rfl
theorem bi_law_times (D : DefAt K mg "_law_times" st_law_times) : Binds K D.fd ["_law_program_here", "_law_many"] [] := by
  obtain ⟨oc, od, kV, doc, pm, an, ct, osl, e, _⟩ := D.ok.ex
  rw [e]
  exact .all fun us hl => match us, hl with | [_, _], _ => rfl
theorem bi_law_ran (D : DefAt K mg "_law_ran" st_law_ran) : Binds K D.fd ["_law_machine_here", "_law_program_here", "_law_losses"] [] := by
  obtain ⟨oc, od, kV, doc, pm, an, ct, osl, e, _⟩ := D.ok.ex
  rw [e]
  exact .all fun us hl => match us, hl with | [_, _, _], _ => rfl
theorem bi_law_alike (D : DefAt K mg "_law_alike" st_law_alike) : Binds K D.fd ["_law_found", "_law_due"] [] := by
  obtain ⟨oc, od, kV, doc, pm, an, ct, osl, e, _⟩ := D.ok.ex
  rw [e]
  exact .all fun us hl => match us, hl with | [_, _], _ => rfl
theorem bi_law_bad (D : DefAt K mg "_law_bad" st_law_bad) : Binds K D.fd ["_law_machine_here", "_law_program_here", "_law_losses", "_law_wishes_here"] [] := by
  obtain ⟨oc, od, kV, doc, pm, an, ct, osl, e, _⟩ := D.ok.ex
  rw [e]
  exact .all fun us hl => match us, hl with | [_, _, _, _], _ => rfl
theorem bi_law_repeats (D : DefAt K mg "_law_repeats" st_law_repeats) : Binds K D.fd ["_law_machine_here", "_law_program_here", "_law_many"] [] := by
  obtain ⟨oc, od, kV, doc, pm, an, ct, osl, e, _⟩ := D.ok.ex
  rw [e]
  exact .all fun us hl => match us, hl with | [_, _, _], _ => rfl
theorem bi_all_moments (D : DefAt K mg "all_moments" st_all_moments) : Binds K D.fd ["machine", "program", "many"] [] := by
  obtain ⟨oc, od, kV, doc, pm, an, ct, osl, e, _⟩ := D.ok.ex
  rw [e]
  exact .all fun us hl => match us, hl with | [_, _, _], _ => rfl
theorem bi_keep (D : DefAt K mg "keep" st_keep) : Binds K D.fd ["later", "pair", "losses"] [] := by
  obtain ⟨oc, od, kV, doc, pm, an, ct, osl, e, _⟩ := D.ok.ex
  rw [e]
  exact .all fun us hl => match us, hl with | [_, _, _], _ => rfl
theorem bi_sure_terms (D : DefAt K mg "sure_terms" st_sure_terms) : Binds K D.fd ["machine", "program", "many"] [] := by
  obtain ⟨oc, od, kV, doc, pm, an, ct, osl, e, _⟩ := D.ok.ex
  rw [e]
  exact .all fun us hl => match us, hl with | [_, _, _], _ => rfl
theorem bi_least_harm (D : DefAt K mg "least_harm" st_least_harm) : Binds K D.fd ["machine", "program", "many", "wishes"] [] := by
  obtain ⟨oc, od, kV, doc, pm, an, ct, osl, e, _⟩ := D.ok.ex
  rw [e]
  exact .all fun us hl => match us, hl with | [_, _, _, _], _ => rfl
theorem bi_is_proof (D : DefAt K mg "is_proof" st_is_proof) : Binds K D.fd ["machine", "program", "many", "wishes"] [] := by
  obtain ⟨oc, od, kV, doc, pm, an, ct, osl, e, _⟩ := D.ok.ex
  rw [e]
  exact .all fun us hl => match us, hl with | [_, _, _, _], _ => rfl
theorem bi_harm (D : DefAt K mg "harm" st_harm) : Binds K D.fd ["machine", "program", "many", "wishes"] [] := by
  obtain ⟨oc, od, kV, doc, pm, an, ct, osl, e, _⟩ := D.ok.ex
  rw [e]
  exact .all fun us hl => match us, hl with | [_, _, _, _], _ => rfl
theorem bi_shows_harm (D : DefAt K mg "shows_harm" st_shows_harm) : Binds K D.fd ["machine", "program", "many", "wishes", "value"] [] := by
  obtain ⟨oc, od, kV, doc, pm, an, ct, osl, e, _⟩ := D.ok.ex
  rw [e]
  exact .all fun us hl => match us, hl with | [_, _, _, _, _], _ => rfl
theorem bi_repeated_ends (D : DefAt K mg "repeated_ends" st_repeated_ends) : Binds K D.fd ["machine", "program", "many"] [] := by
  obtain ⟨oc, od, kV, doc, pm, an, ct, osl, e, _⟩ := D.ok.ex
  rw [e]
  exact .all fun us hl => match us, hl with | [_, _, _], _ => rfl
theorem bi_is_repeat_proof (D : DefAt K mg "is_repeat_proof" st_is_repeat_proof) : Binds K D.fd ["machine", "program", "many", "wishes"] [] := by
  obtain ⟨oc, od, kV, doc, pm, an, ct, osl, e, _⟩ := D.ok.ex
  rw [e]
  exact .all fun us hl => match us, hl with | [_, _, _, _], _ => rfl
theorem bi_law_taken (D : DefAt K mg "_law_taken" st_law_taken) : Binds K D.fd ["_law_row", "_law_many"] [] := by
  obtain ⟨oc, od, kV, doc, pm, an, ct, osl, e, _⟩ := D.ok.ex
  rw [e]
  exact .all fun us hl => match us, hl with | [_, _], _ => rfl
theorem bi_law_machine (D : DefAt K mg "_law_machine" st_law_machine) : Binds K D.fd ["_law_row"] [] := by
  obtain ⟨oc, od, kV, doc, pm, an, ct, osl, e, _⟩ := D.ok.ex
  rw [e]
  exact .all fun us hl => match us, hl with | [_], _ => rfl
theorem bi_law_every_line (D : DefAt K mg "_law_every_line" st_law_every_line) : Binds K D.fd ["_law_machine_here"] [] := by
  obtain ⟨oc, od, kV, doc, pm, an, ct, osl, e, _⟩ := D.ok.ex
  rw [e]
  exact .all fun us hl => match us, hl with | [_], _ => rfl
theorem bi_law_pick (D : DefAt K mg "_law_pick" st_law_pick) : Binds K D.fd ["_law_row", "_law_things"] [] := by
  obtain ⟨oc, od, kV, doc, pm, an, ct, osl, e, _⟩ := D.ok.ex
  rw [e]
  exact .all fun us hl => match us, hl with | [_, _], _ => rfl
theorem bi_law_program (D : DefAt K mg "_law_program" st_law_program) : Binds K D.fd ["_law_row", "_law_machine_here", "_law_many"] [] := by
  obtain ⟨oc, od, kV, doc, pm, an, ct, osl, e, _⟩ := D.ok.ex
  rw [e]
  exact .all fun us hl => match us, hl with | [_, _, _], _ => rfl
theorem bi_law_wishes (D : DefAt K mg "_law_wishes" st_law_wishes) : Binds K D.fd ["_law_row", "_law_machine_here"] [] := by
  obtain ⟨oc, od, kV, doc, pm, an, ct, osl, e, _⟩ := D.ok.ex
  rw [e]
  exact .all fun us hl => match us, hl with | [_, _], _ => rfl
theorem bi_law_every_loss (D : DefAt K mg "_law_every_loss" st_law_every_loss) : Binds K D.fd ["_law_size", "_law_many"] [] := by
  obtain ⟨oc, od, kV, doc, pm, an, ct, osl, e, _⟩ := D.ok.ex
  rw [e]
  exact .all fun us hl => match us, hl with | [_, _], _ => rfl
theorem bi_law (D : DefAt K mg "law" st_law) : Binds K D.fd ["_law_script"] [] := by
  obtain ⟨oc, od, kV, doc, pm, an, ct, osl, e, _⟩ := D.ok.ex
  rw [e]
  exact .all fun us hl => match us, hl with | [_], _ => rfl
end
end LL
set_option Elab.async false
set_option linter.all false
set_option maxRecDepth 100000
set_option maxHeartbeats 4000000
set_option autoImplicit false
/-! The defs by data: the walks (printed by gen1.py). -/
namespace LL
open PySem PySem.Spec PyProof.Rows L2
variable [Wd]
section
variable {P : Program} {w : World} {K : PySem.W.Frag} {mg : Str → Option Value} {base : Heap} {Ps : List Addr}
/-! is_number -/
theorem sc_is_number : FnScope N_is_number ["value", "low", "high"] (defScope st_is_number) := ⟨rfl, rfl, rfl, by decide +kernel, rfl, by decide +kernel, by decide +kernel⟩
theorem ok_is_number (G : Glo mg) (hw : w = Wd.w) (D_is_number : DefAt K mg "is_number" st_is_number) : FnOk P w K mg base CX0 1 D_is_number.f D_is_number.fd ["value", "low", "high"] (spD Ps F_is_number) :=
  fn_data2 (k := 0) N_is_number 3 3 S_is_number rfl rfl rfl D_is_number.ok sc_is_number fun A outer s H E hr => by
    conv => arg 2; whnf
    exact (pssd_one (psd_ret (pd_and (pd_isa rfl G.isinstance rfl G.int (pd_name 0 (pv 0))) (pd_and (pd_not (pd_isa rfl G.isinstance rfl G.bool (pd_name 0 (pv 0)))) (pd_one (pd_ch cd_le cd_le (pd_name 1 (pv 1)) (pd_name 0 (pv 0)) (pd_name 2 (pv 2)) rfl))))))
/-! need_machine -/
theorem sc_need_machine : FnScope N_need_machine ["value"] (defScope st_need_machine) := ⟨rfl, rfl, rfl, by decide +kernel, rfl, by decide +kernel, by decide +kernel⟩
theorem bk_need_machine_0 : GSc N_need_machine (defScope st_need_machine) ({ kind := PySem.ScopeKind.function, names := [(PySem.Str.ofString ".0", PySem.NameKind.local), (PySem.Str.ofString "reads", PySem.NameKind.local), (PySem.Str.ofString "is_number", PySem.NameKind.globalImplicit), (PySem.Str.ofString "MOST_READ", PySem.NameKind.globalImplicit)], isGenerator := true, isCoroutine := false, more := [] } : Scope) own_need_machine_0 := ⟨⟨rfl, by decide +kernel, by decide +kernel, by decide +kernel, by decide +kernel⟩, rfl, by decide +kernel, by decide +kernel⟩
theorem ok_need_machine (G : Glo mg) (hw : w = Wd.w) (D_need_machine : DefAt K mg "need_machine" st_need_machine) {P1 : Addr} (TB : LamX.TabB base mg D_need_machine.c P1) (hP : P1 ∈ Ps) (hPl : P1 ≠ Wd.lamP) (D_is_number : DefAt K mg "is_number" st_is_number) (h_is_number : FnOk P w K mg base CX0 1 D_is_number.f D_is_number.fd ["value", "low", "high"] (spD Ps F_is_number)) : FnOk P w K mg base CX0 3 D_need_machine.f D_need_machine.fd ["value"] (spD Ps F_need_machine) :=
  fn_data2 (k := 2) N_need_machine 1 4 S_need_machine rfl rfl rfl D_need_machine.ok sc_need_machine fun A outer s H E hr => by
    conv => arg 2; whnf
    exact (pssd_cons (psd_if (PW.pt (pdw_or (pdt_not (pdt_b (pd_isa rfl G.isinstance rfl G.tuple (pd_name 0 (pv 0))))) (pdw_or1 (pdt_cm (cd_ne (u64 hr)) (pd_len rfl G.len (pd_name 0 (pv 0))) pd_int rfl)))) pssd_no pssd_nil)
    (pssd_cons (psd_asg (pd_name 0 (pv 0)) (pgd_tup rfl (pgd_cons (pgd_name (pg_name (i := 1) sc_need_machine.nd rfl (by first | exact Or.inl rfl | exact Or.inr rfl))) (pgd_cons (pgd_name (pg_name (i := 2) sc_need_machine.nd rfl (by first | exact Or.inl rfl | exact Or.inr rfl))) pgd_nil))))
    (pssd_cons (psd_if (pdt_not (pdt_b (pd_asB (pd_call h_is_number (hr.mono (by omega)) rfl D_is_number.m D_is_number.ok.kp (bi_is_number D_is_number) .nil (fun _ => .nil) (pda_cons (pd_name 1 (pv 1)) (pda_cons pd_int (pda_cons (pd_glob G.c_MOST_CELLS) pda_nil))))))) pssd_no pssd_nil)
    (pssd_cons (psd_if (PW.pt (pdw_or (pdt_not (pdt_b (pd_isa rfl G.isinstance rfl G.tuple (pd_name 2 (pv 2))))) (pdw_or1 (pdt_not (pdt_ch cd_le cd_le pd_int (pd_len rfl G.len (pd_name 2 (pv 2))) (pd_glob G.c_MOST_FUNCTIONS) rfl))))) pssd_no pssd_nil)
    (pssd_one (psd_if (pdt_not (pdt_b (pd_all sc_need_machine.nd hr rfl G.all TB hP hPl rfl (pid_tup (pd_name 2 (pv 2))) bk_need_machine_0 (fun _ _ _ _ _ _ _ => (pg_name (i := 3) sc_need_machine.nd rfl (by first | exact Or.inl rfl | exact Or.inr rfl))) (own_name (by decide)) (fun _ _ _ _ _ _ _ hg => (pd_call h_is_number (hg.mono (by omega)) rfl D_is_number.m D_is_number.ok.kp (bi_is_number D_is_number) .nil (fun _ => .nil) (pda_cons (pd_name 3 (pv 3)) (pda_cons pd_int (pda_cons (pd_glob G.c_MOST_READ) pda_nil)))))))) pssd_no pssd_nil))))))
/-! is_line -/
theorem sc_is_line : FnScope N_is_line ["machine", "value"] (defScope st_is_line) := ⟨rfl, rfl, rfl, by decide +kernel, rfl, by decide +kernel, by decide +kernel⟩
theorem bk_is_line_0 : GSc N_is_line (defScope st_is_line) ({ kind := PySem.ScopeKind.function, names := [(PySem.Str.ofString ".0", PySem.NameKind.local), (PySem.Str.ofString "source", PySem.NameKind.local), (PySem.Str.ofString "cells", PySem.NameKind.free), (PySem.Str.ofString "is_number", PySem.NameKind.globalImplicit)], isGenerator := true, isCoroutine := false, more := [] } : Scope) own_is_line_0 := ⟨⟨rfl, by decide +kernel, by decide +kernel, by decide +kernel, by decide +kernel⟩, rfl, by decide +kernel, by decide +kernel⟩
theorem ok_is_line (G : Glo mg) (hw : w = Wd.w) (D_is_line : DefAt K mg "is_line" st_is_line) {P1 : Addr} (TB : LamX.TabB base mg D_is_line.c P1) (hP : P1 ∈ Ps) (hPl : P1 ≠ Wd.lamP) (D_is_number : DefAt K mg "is_number" st_is_number) (h_is_number : FnOk P w K mg base CX0 1 D_is_number.f D_is_number.fd ["value", "low", "high"] (spD Ps F_is_number)) : FnOk P w K mg base CX0 3 D_is_line.f D_is_line.fd ["machine", "value"] (spD Ps F_is_line) :=
  fn_data2 (k := 2) N_is_line 2 8 S_is_line rfl rfl rfl D_is_line.ok sc_is_line fun A outer s H E hr => by
    conv => arg 2; whnf
    exact (pssd_cons (psd_asg (pd_name 0 (pv 0)) (pgd_tup rfl (pgd_cons (pgd_name (pg_name (i := 6) sc_is_line.nd rfl (by first | exact Or.inl rfl | exact Or.inr rfl))) (pgd_cons (pgd_name (pg_name (i := 2) sc_is_line.nd rfl (by first | exact Or.inl rfl | exact Or.inr rfl))) pgd_nil))))
    (pssd_cons (psd_if (PW.pt (pdw_or (pdt_not (pdt_b (pd_isa rfl G.isinstance rfl G.tuple (pd_name 1 (pv 1))))) (pdw_or (pdt_cm (cd_ne (u64 hr)) (pd_len rfl G.len (pd_name 1 (pv 1))) pd_int rfl) (pdw_or1 (pdt_not (pdt_b (pd_asB (pd_call h_is_number (hr.mono (by omega)) rfl D_is_number.m D_is_number.ok.kp (bi_is_number D_is_number) .nil (fun _ => .nil) (pda_cons (pd_ix (pd_name 1 (pv 1)) pd_int) (pda_cons pd_int (pda_cons (pd_sub (pd_name 6 (pv 6)) pd_int) pda_nil))))))))))) (pssd_one (psd_ret pd_bl)) pssd_nil)
    (pssd_cons (psd_asg (pd_name 1 (pv 1)) (pgd_tup rfl (pgd_cons (pgd_name (pg_name (i := 3) sc_is_line.nd rfl (by first | exact Or.inl rfl | exact Or.inr rfl))) (pgd_cons (pgd_name (pg_name (i := 4) sc_is_line.nd rfl (by first | exact Or.inl rfl | exact Or.inr rfl))) (pgd_cons (pgd_name (pg_name (i := 5) sc_is_line.nd rfl (by first | exact Or.inl rfl | exact Or.inr rfl))) pgd_nil)))))
    (pssd_cons (psd_if (PW.pt (pdw_or (pdt_not (pdt_b (pd_isa rfl G.isinstance rfl G.tuple (pd_name 5 (pv 5))))) (pdw_or1 (pdt_not (pdt_b (pd_all sc_is_line.nd hr rfl G.all TB hP hPl rfl (pid_tup (pd_name 5 (pv 5))) bk_is_line_0 (fun _ _ _ _ _ _ _ => (pg_name (i := 7) sc_is_line.nd rfl (by first | exact Or.inl rfl | exact Or.inr rfl))) (own_name (by decide)) (fun _ _ _ _ _ _ _ hg => (pd_call h_is_number (hg.mono (by omega)) rfl D_is_number.m D_is_number.ok.kp (bi_is_number D_is_number) .nil (fun _ => .nil) (pda_cons (pd_name 7 (pv 7)) (pda_cons pd_int (pda_cons (pd_sub (pd_name 6 (pv 6)) pd_int) pda_nil))))))))))) (pssd_one (psd_ret pd_bl)) pssd_nil)
    (pssd_cons (psd_if (pdt_cm cd_is (pd_name 4 (pv 4)) pd_non rfl) (pssd_one (psd_ret (pd_and (pd_cm (cd_eq (u64 hr)) (pd_len rfl G.len (pd_name 5 (pv 5))) pd_int rfl) (pd_one (pd_cm (cd_ne (u64 hr)) (pd_ix (pd_name 5 (pv 5)) pd_int) (pd_name 3 (pv 3)) rfl))))) pssd_nil)
    (pssd_one (psd_ret (pd_and (pd_asB (pd_call h_is_number (hr.mono (by omega)) rfl D_is_number.m D_is_number.ok.kp (bi_is_number D_is_number) .nil (fun _ => .nil) (pda_cons (pd_name 4 (pv 4)) (pda_cons pd_int (pda_cons (pd_sub (pd_len rfl G.len (pd_name 2 (pv 2))) pd_int) pda_nil))))) (pd_one (pd_cm (cd_eq (u64 hr)) (pd_len rfl G.len (pd_name 5 (pv 5))) (pd_ix (pd_name 2 (pv 2)) (pd_name 4 (pv 4))) rfl))))))))))
/-! need_program -/
theorem sc_need_program : FnScope N_need_program ["machine", "value"] (defScope st_need_program) := ⟨rfl, rfl, rfl, by decide +kernel, rfl, by decide +kernel, by decide +kernel⟩
theorem ok_need_program (G : Glo mg) (hw : w = Wd.w) (D_need_program : DefAt K mg "need_program" st_need_program) (D_is_line : DefAt K mg "is_line" st_is_line) (h_is_line : FnOk P w K mg base CX0 3 D_is_line.f D_is_line.fd ["machine", "value"] (spD Ps F_is_line)) : FnOk P w K mg base CX0 4 D_need_program.f D_need_program.fd ["machine", "value"] (spD Ps F_need_program) :=
  fn_data2 (k := 3) N_need_program 2 4 S_need_program rfl rfl rfl D_need_program.ok sc_need_program fun A outer s H E hr => by
    conv => arg 2; whnf
    exact (pssd_cons (psd_if (PW.pt (pdw_or (pdt_not (pdt_b (pd_isa rfl G.isinstance rfl G.tuple (pd_name 1 (pv 1))))) (pdw_or1 (pdt_cm cd_gt (pd_len rfl G.len (pd_name 1 (pv 1))) (pd_glob G.c_MOST_LINES) rfl)))) pssd_no pssd_nil)
    (pssd_one (psd_for PassesOwn.never rfl (pid_enum rfl G.enumerate (pd_name 1 (pv 1))) (pgd_tup rfl (pgd_cons (pgd_name (pg_name (i := 2) sc_need_program.nd rfl (by first | exact Or.inl rfl | exact Or.inr rfl))) (pgd_cons (pgd_name (pg_name (i := 3) sc_need_program.nd rfl (by first | exact Or.inl rfl | exact Or.inr rfl))) pgd_nil))) (pssd_one (psd_if (pdt_not (pdt_b (pd_asB (pd_call h_is_line (hr.mono (by omega)) rfl D_is_line.m D_is_line.ok.kp (bi_is_line D_is_line) .nil (fun _ => .nil) (pda_cons (pd_name 0 (pv 0)) (pda_cons (pd_name 3 (pv 3)) pda_nil)))))) pssd_no pssd_nil)))))
/-! depth -/
theorem sc_depth : FnScope N_depth ["term"] (defScope st_depth) := ⟨rfl, rfl, rfl, by decide +kernel, rfl, by decide +kernel, by decide +kernel⟩
theorem bk_depth_0 : BlkOk N_depth (defScope st_depth) ({ kind := PySem.ScopeKind.function, names := [(PySem.Str.ofString ".0", PySem.NameKind.local), (PySem.Str.ofString "part", PySem.NameKind.local), (PySem.Str.ofString "depth", PySem.NameKind.globalImplicit)], isGenerator := false, isCoroutine := false, more := [] } : Scope) own_depth_0 := ⟨rfl, by decide +kernel, by decide +kernel, by decide +kernel, by decide +kernel⟩
theorem ok_depth (G : Glo mg) (hw : w = Wd.w) (D_depth : DefAt K mg "depth" st_depth) : ∀ n : Nat, FnOk P w K mg base CX0 (1 * n) D_depth.f D_depth.fd ["term"] (spD Ps (F_depth n))
  | 0 => fn_never fun vs H Q E ⟨ds, d, _, _, e, _⟩ => nomatch e
  | n + 1 => by
    have hF := ok_depth G hw D_depth n
    exact fn_data2 (k := 1 * n + 0) N_depth 1 2 (S_depth (F_depth n)) rfl rfl rfl D_depth.ok sc_depth fun A outer s H E hr => by
      conv => arg 2; whnf
      exact (pssd_one (psd_ret (pd_if (pdt_b (pd_isa rfl G.isinstance rfl G.tuple (pd_name 0 (pv 0)))) (pd_add pd_int (pd_max rfl rfl G.max (pd_lc rfl sc_depth.nd (pid_tup (pd_slice (pd_name 0 (pv 0)) (pdo_some pd_int) pdo_none)) bk_depth_0 (fun _ _ _ _ _ => (pg_name (i := 1) sc_depth.nd rfl (by first | exact Or.inl rfl | exact Or.inr rfl))) (own_name (by decide)) (fun _ _ _ _ _ => ptsd_nil) (fun _ _ _ _ _ => (pd_call hF (hr.mono (by omega)) rfl D_depth.m D_depth.ok.kp (bi_depth D_depth) .nil (fun _ => .nil) (pda_cons (pd_name 1 (pv 1)) pda_nil)))))) pd_int)))
/-! is_term -/
theorem sc_is_term : FnScope N_is_term ["machine", "value", "deep"] (defScope st_is_term) := ⟨rfl, rfl, rfl, by decide +kernel, rfl, by decide +kernel, by decide +kernel⟩
theorem bk_is_term_0 : GSc N_is_term (defScope st_is_term) ({ kind := PySem.ScopeKind.function, names := [(PySem.Str.ofString ".0", PySem.NameKind.local), (PySem.Str.ofString "part", PySem.NameKind.local), (PySem.Str.ofString "deep", PySem.NameKind.free), (PySem.Str.ofString "machine", PySem.NameKind.free), (PySem.Str.ofString "is_term", PySem.NameKind.globalImplicit)], isGenerator := true, isCoroutine := false, more := [] } : Scope) own_is_term_0 := ⟨⟨rfl, by decide +kernel, by decide +kernel, by decide +kernel, by decide +kernel⟩, rfl, by decide +kernel, by decide +kernel⟩
theorem ok_is_term (G : Glo mg) (hw : w = Wd.w) (D_is_term : DefAtD K mg "is_term" st_is_term 8) {P1 : Addr} (TB : LamX.TabB base mg D_is_term.c P1) (hP : P1 ∈ Ps) (hPl : P1 ≠ Wd.lamP) (D_is_number : DefAt K mg "is_number" st_is_number) (h_is_number : FnOk P w K mg base CX0 1 D_is_number.f D_is_number.fd ["value", "low", "high"] (spD Ps F_is_number)) : ∀ n : Nat, FnOk P w K mg base CX0 (2 * n) D_is_term.f D_is_term.fd ["machine", "value", "deep"] (spD Ps (F_is_term n))
  | 0 => fn_never fun vs H Q E ⟨ds, d, _, _, e, _⟩ => nomatch e
  | n + 1 => by
    have hF := ok_is_term G hw D_is_term TB hP hPl D_is_number h_is_number n
    exact fn_data2 (k := 2 * n + 1) N_is_term 3 6 (S_is_term (F_is_term n)) rfl rfl rfl D_is_term.ok sc_is_term fun A outer s H E hr => by
      conv => arg 2; whnf
      exact (pssd_cons (psd_asg (pd_name 0 (pv 0)) (pgd_tup rfl (pgd_cons (pgd_name (pg_name (i := 3) sc_is_term.nd rfl (by first | exact Or.inl rfl | exact Or.inr rfl))) (pgd_cons (pgd_name (pg_name (i := 4) sc_is_term.nd rfl (by first | exact Or.inl rfl | exact Or.inr rfl))) pgd_nil))))
    (pssd_cons (psd_if (pdt_not (pdt_b (pd_isa rfl G.isinstance rfl G.tuple (pd_name 1 (pv 1))))) (pssd_one (psd_ret (pd_call h_is_number (hr.mono (by omega)) rfl D_is_number.m D_is_number.ok.kp (bi_is_number D_is_number) .nil (fun _ => .nil) (pda_cons (pd_name 1 (pv 1)) (pda_cons pd_int (pda_cons (pd_sub (pd_name 3 (pv 3)) pd_int) pda_nil)))))) pssd_nil)
    (pssd_cons (psd_if (PW.pt (pdw_or (pdt_cm cd_lt (pd_name 2 (pv 2)) pd_int rfl) (pdw_or (pdt_not (pdt_tru (pd_name 1 (pv 1)))) (pdw_or1 (pdt_not (pdt_b (pd_asB (pd_call h_is_number (hr.mono (by omega)) rfl D_is_number.m D_is_number.ok.kp (bi_is_number D_is_number) .nil (fun _ => .nil) (pda_cons (pd_ix (pd_name 1 (pv 1)) pd_int) (pda_cons pd_int (pda_cons (pd_sub (pd_len rfl G.len (pd_name 4 (pv 4))) pd_int) pda_nil))))))))))) (pssd_one (psd_ret pd_bl)) pssd_nil)
    (pssd_cons (psd_if (pdt_cm (cd_ne (u64 hr)) (pd_len rfl G.len (pd_name 1 (pv 1))) (pd_add pd_int (pd_ix (pd_name 4 (pv 4)) (pd_ix (pd_name 1 (pv 1)) pd_int))) rfl) (pssd_one (psd_ret pd_bl)) pssd_nil)
    (pssd_one (psd_ret (pd_all sc_is_term.nd hr rfl G.all TB hP hPl rfl (pid_tup (pd_slice (pd_name 1 (pv 1)) (pdo_some pd_int) pdo_none)) bk_is_term_0 (fun _ _ _ _ _ _ _ => (pg_name (i := 5) sc_is_term.nd rfl (by first | exact Or.inl rfl | exact Or.inr rfl))) (own_name (by decide)) (fun _ _ _ _ _ _ _ hg => (pd_call hF (hg.mono (by omega)) rfl D_is_term.m D_is_term.ok.kp (bi_is_term D_is_term) .nil (fun _ => .nil) (pda_cons (pd_name 0 (pv 0)) (pda_cons (pd_name 5 (pv 5)) (pda_cons (pd_sub (pd_name 2 (pv 2)) pd_int) pda_nil))))))))))))
/-! first_terms -/
theorem sc_first_terms : FnScope N_first_terms ["machine"] (defScope st_first_terms) := ⟨rfl, rfl, rfl, by decide +kernel, rfl, by decide +kernel, by decide +kernel⟩
theorem ok_first_terms (G : Glo mg) (hw : w = Wd.w) (D_first_terms : DefAt K mg "first_terms" st_first_terms) : FnOk P w K mg base CX0 1 D_first_terms.f D_first_terms.fd ["machine"] (spD Ps F_first_terms) :=
  fn_data2 (k := 0) N_first_terms 1 1 S_first_terms rfl rfl rfl D_first_terms.ok sc_first_terms fun A outer s H E hr => by
    conv => arg 2; whnf
    exact (pssd_one (psd_ret (pd_rg1 rfl rfl G.tuple rfl G.range (pd_ix (pd_name 0 (pv 0)) pd_int))))
/-! done -/
theorem sc_done : FnScope N_done ["held", "line"] (defScope st_done) := ⟨rfl, rfl, rfl, by decide +kernel, rfl, by decide +kernel, by decide +kernel⟩
theorem bk_done_0 : BlkOk N_done (defScope st_done) ({ kind := PySem.ScopeKind.function, names := [(PySem.Str.ofString ".0", PySem.NameKind.local), (PySem.Str.ofString "source", PySem.NameKind.local), (PySem.Str.ofString "held", PySem.NameKind.free)], isGenerator := false, isCoroutine := false, more := [] } : Scope) own_done_0 := ⟨rfl, by decide +kernel, by decide +kernel, by decide +kernel, by decide +kernel⟩
theorem ok_done (G : Glo mg) (hw : w = Wd.w) (D_done : DefAt K mg "done" st_done) (D_depth : DefAt K mg "depth" st_depth) (h_depth : FnOk P w K mg base CX0 12 D_depth.f D_depth.fd ["term"] (spD Ps (F_depth 12))) : FnOk P w K mg base CX0 13 D_done.f D_done.fd ["held", "line"] (spD Ps F_done) :=
  fn_data2 (k := 12) N_done 2 7 S_done rfl rfl rfl D_done.ok sc_done fun A outer s H E hr => by
    conv => arg 2; whnf
    exact (pssd_cons (psd_asg (pd_name 1 (pv 1)) (pgd_tup rfl (pgd_cons (pgd_name (pg_name (i := 2) sc_done.nd rfl (by first | exact Or.inl rfl | exact Or.inr rfl))) (pgd_cons (pgd_name (pg_name (i := 3) sc_done.nd rfl (by first | exact Or.inl rfl | exact Or.inr rfl))) (pgd_cons (pgd_name (pg_name (i := 4) sc_done.nd rfl (by first | exact Or.inl rfl | exact Or.inr rfl))) pgd_nil)))))
    (pssd_cons (psd_if (pdt_cm cd_is (pd_name 3 (pv 3)) pd_non rfl) (pssd_one (psd_set (i := 5) sc_done.nd rfl (by first | exact Or.inl rfl | exact Or.inr rfl) (pd_ix (pd_name 0 (pv 0)) (pd_ix (pd_name 4 (pv 4)) pd_int)))) (pssd_cons (psd_set (i := 5) sc_done.nd rfl (by first | exact Or.inl rfl | exact Or.inr rfl) (pd_add (pd_tup (pda_cons (pd_name 3 (pv 3)) pda_nil)) (pd_tuple rfl G.tuple (pd_lc rfl sc_done.nd (pid_tup (pd_name 4 (pv 4))) bk_done_0 (fun _ _ _ _ _ => (pg_name (i := 6) sc_done.nd rfl (by first | exact Or.inl rfl | exact Or.inr rfl))) (own_name (by decide)) (fun _ _ _ _ _ => ptsd_nil) (fun _ _ _ _ _ => (pd_ix (pd_name 0 (pv 0)) (pd_name 6 (pv 6))))))))
    (pssd_one (psd_if (pdt_cm cd_gt (pd_call h_depth (hr.mono (by omega)) rfl D_depth.m D_depth.ok.kp (bi_depth D_depth) .nil (fun _ => .nil) (pda_cons (pd_name 5 (pv 5)) pda_nil)) (pd_glob G.c_MOST_DEEP) rfl) pssd_no pssd_nil))))
    (pssd_one (psd_ret (pd_add (pd_add (pd_slice (pd_name 0 (pv 0)) pdo_none (pdo_some (pd_name 2 (pv 2)))) (pd_tup (pda_cons (pd_name 5 (pv 5)) pda_nil))) (pd_slice (pd_name 0 (pv 0)) (pdo_some (pd_add (pd_name 2 (pv 2)) pd_int)) pdo_none))))))
/-! need_many -/
theorem sc_need_many : FnScope N_need_many ["value"] (defScope st_need_many) := ⟨rfl, rfl, rfl, by decide +kernel, rfl, by decide +kernel, by decide +kernel⟩
theorem ok_need_many (G : Glo mg) (hw : w = Wd.w) (D_need_many : DefAt K mg "need_many" st_need_many) (D_is_number : DefAt K mg "is_number" st_is_number) (h_is_number : FnOk P w K mg base CX0 1 D_is_number.f D_is_number.fd ["value", "low", "high"] (spD Ps F_is_number)) : FnOk P w K mg base CX0 2 D_need_many.f D_need_many.fd ["value"] (spD Ps F_need_many) :=
  fn_data2 (k := 1) N_need_many 1 1 S_need_many rfl rfl rfl D_need_many.ok sc_need_many fun A outer s H E hr => by
    conv => arg 2; whnf
    exact (pssd_one (psd_if (pdt_not (pdt_b (pd_asB (pd_call h_is_number (hr.mono (by omega)) rfl D_is_number.m D_is_number.ok.kp (bi_is_number D_is_number) .nil (fun _ => .nil) (pda_cons (pd_name 0 (pv 0)) (pda_cons pd_int (pda_cons (pd_glob G.c_MOST_LOST) pda_nil))))))) pssd_no pssd_nil))
/-! are_losses -/
theorem sc_are_losses : FnScope N_are_losses ["program", "many", "value"] (defScope st_are_losses) := ⟨rfl, rfl, rfl, by decide +kernel, rfl, by decide +kernel, by decide +kernel⟩
theorem bk_are_losses_0 : GSc N_are_losses (defScope st_are_losses) ({ kind := PySem.ScopeKind.function, names := [(PySem.Str.ofString ".0", PySem.NameKind.local), (PySem.Str.ofString "index", PySem.NameKind.local), (PySem.Str.ofString "program", PySem.NameKind.free), (PySem.Str.ofString "is_number", PySem.NameKind.globalImplicit), (PySem.Str.ofString "len", PySem.NameKind.globalImplicit)], isGenerator := true, isCoroutine := false, more := [] } : Scope) own_are_losses_0 := ⟨⟨rfl, by decide +kernel, by decide +kernel, by decide +kernel, by decide +kernel⟩, rfl, by decide +kernel, by decide +kernel⟩
theorem bk_are_losses_1 : GSc N_are_losses (defScope st_are_losses) ({ kind := PySem.ScopeKind.function, names := [(PySem.Str.ofString ".0", PySem.NameKind.local), (PySem.Str.ofString "one", PySem.NameKind.local), (PySem.Str.ofString "other", PySem.NameKind.local)], isGenerator := true, isCoroutine := false, more := [] } : Scope) own_are_losses_1 := ⟨⟨rfl, by decide +kernel, by decide +kernel, by decide +kernel, by decide +kernel⟩, rfl, by decide +kernel, by decide +kernel⟩
theorem bk_are_losses_2 : GSc N_are_losses (defScope st_are_losses) ({ kind := PySem.ScopeKind.function, names := [(PySem.Str.ofString ".0", PySem.NameKind.local), (PySem.Str.ofString "place", PySem.NameKind.local), (PySem.Str.ofString "many", PySem.NameKind.free), (PySem.Str.ofString "value", PySem.NameKind.free)], isGenerator := true, isCoroutine := false, more := [] } : Scope) own_are_losses_2 := ⟨⟨rfl, by decide +kernel, by decide +kernel, by decide +kernel, by decide +kernel⟩, rfl, by decide +kernel, by decide +kernel⟩
theorem ok_are_losses (G : Glo mg) (hw : w = Wd.w) (D_are_losses : DefAt K mg "are_losses" st_are_losses) {P1 : Addr} (TB : LamX.TabB base mg D_are_losses.c P1) (hP : P1 ∈ Ps) (hPl : P1 ≠ Wd.lamP) (D_is_number : DefAt K mg "is_number" st_is_number) (h_is_number : FnOk P w K mg base CX0 1 D_is_number.f D_is_number.fd ["value", "low", "high"] (spD Ps F_is_number)) : FnOk P w K mg base CX0 3 D_are_losses.f D_are_losses.fd ["program", "many", "value"] (spD Ps F_are_losses) :=
  fn_data2 (k := 2) N_are_losses 3 7 S_are_losses rfl rfl rfl D_are_losses.ok sc_are_losses fun A outer s H E hr => by
    conv => arg 2; whnf
    exact (pssd_cons (psd_if (PW.pt (pdw_or (pdt_not (pdt_b (pd_isa rfl G.isinstance rfl G.tuple (pd_name 2 (pv 2))))) (pdw_or1 (pdt_not (pdt_b (pd_all sc_are_losses.nd hr rfl G.all TB hP hPl rfl (pid_tup (pd_name 2 (pv 2))) bk_are_losses_0 (fun _ _ _ _ _ _ _ => (pg_name (i := 3) sc_are_losses.nd rfl (by first | exact Or.inl rfl | exact Or.inr rfl))) (own_name (by decide)) (fun _ _ _ _ _ _ _ hg => (pd_call h_is_number (hg.mono (by omega)) rfl D_is_number.m D_is_number.ok.kp (bi_is_number D_is_number) .nil (fun _ => .nil) (pda_cons (pd_name 3 (pv 3)) (pda_cons pd_int (pda_cons (pd_sub (pd_len rfl G.len (pd_name 0 (pv 0))) pd_int) pda_nil))))))))))) (pssd_one (psd_ret pd_bl)) pssd_nil)
    (pssd_cons (psd_if (pdt_not (pdt_b (pd_all sc_are_losses.nd hr rfl G.all TB hP hPl rfl (pid_zip rfl G.zip (pd_name 2 (pv 2)) (pd_slice (pd_name 2 (pv 2)) (pdo_some pd_int) pdo_none)) bk_are_losses_1 (fun _ _ _ _ _ _ _ => (pg_tup rfl (pgs_cons (pg_name (i := 4) sc_are_losses.nd rfl (by first | exact Or.inl rfl | exact Or.inr rfl)) (pgs_cons (pg_name (i := 5) sc_are_losses.nd rfl (by first | exact Or.inl rfl | exact Or.inr rfl)) pgs_nil)))) (own_tup (own_cons (own_name (by decide)) (own_cons (own_name (by decide)) own_nil))) (fun _ _ _ _ _ _ _ hg => (pd_cm cd_lt (pd_name 4 (pv 4)) (pd_name 5 (pv 5)) rfl))))) (pssd_one (psd_ret pd_bl)) pssd_nil)
    (pssd_one (psd_ret (pd_not (pd_any sc_are_losses.nd hr rfl G.any TB hP hPl rfl (pid_rg1 rfl G.range (pd_sub (pd_len rfl G.len (pd_name 2 (pv 2))) (pd_name 1 (pv 1)))) bk_are_losses_2 (fun _ _ _ _ _ _ _ => (pg_name (i := 6) sc_are_losses.nd rfl (by first | exact Or.inl rfl | exact Or.inr rfl))) (own_name (by decide)) (fun _ _ _ _ _ _ _ hg => (pd_cm (cd_eq (u64 hg)) (pd_sub (pd_ix (pd_name 2 (pv 2)) (pd_add (pd_name 6 (pv 6)) (pd_name 1 (pv 1)))) (pd_ix (pd_name 2 (pv 2)) (pd_name 6 (pv 6)))) (pd_name 1 (pv 1)) rfl))))))))
/-! lost_behind -/
theorem sc_lost_behind : FnScope N_lost_behind ["held", "program", "losses"] (defScope st_lost_behind) := ⟨rfl, rfl, rfl, by decide +kernel, rfl, by decide +kernel, by decide +kernel⟩
theorem ok_lost_behind (G : Glo mg) (hw : w = Wd.w) (D_lost_behind : DefAt K mg "lost_behind" st_lost_behind) (D_done : DefAt K mg "done" st_done) (h_done : FnOk P w K mg base CX0 13 D_done.f D_done.fd ["held", "line"] (spD Ps F_done)) : FnOk P w K mg base CX0 14 D_lost_behind.f D_lost_behind.fd ["held", "program", "losses"] (spD Ps F_lost_behind) :=
  fn_data2 (k := 13) N_lost_behind 3 5 S_lost_behind rfl rfl rfl D_lost_behind.ok sc_lost_behind fun A outer s H E hr => by
    conv => arg 2; whnf
    exact (pssd_cons (psd_for PassesOwn.never rfl (pid_enum rfl G.enumerate (pd_name 1 (pv 1))) (pgd_tup rfl (pgd_cons (pgd_name (pg_name (i := 3) sc_lost_behind.nd rfl (by first | exact Or.inl rfl | exact Or.inr rfl))) (pgd_cons (pgd_name (pg_name (i := 4) sc_lost_behind.nd rfl (by first | exact Or.inl rfl | exact Or.inr rfl))) pgd_nil))) (pssd_one (psd_if (pdt_cm (cd_notin (u65 hr)) (pd_name 3 (pv 3)) (pd_name 2 (pv 2)) rfl) (pssd_one (psd_set (i := 0) sc_lost_behind.nd rfl (by first | exact Or.inl rfl | exact Or.inr rfl) (pd_call h_done (hr.mono (by omega)) rfl D_done.m D_done.ok.kp (bi_done D_done) .nil (fun _ => .nil) (pda_cons (pd_name 0 (pv 0)) (pda_cons (pd_name 4 (pv 4)) pda_nil))))) pssd_nil)))
    (pssd_one (psd_ret (pd_name 0 (pv 0)))))
/-! sure_of -/
theorem sc_sure_of : FnScope N_sure_of ["every", "cell"] (defScope st_sure_of) := ⟨rfl, rfl, rfl, by decide +kernel, rfl, by decide +kernel, by decide +kernel⟩
theorem bk_sure_of_0 : BlkOk N_sure_of (defScope st_sure_of) ({ kind := PySem.ScopeKind.function, names := [(PySem.Str.ofString ".0", PySem.NameKind.local), (PySem.Str.ofString "held", PySem.NameKind.local), (PySem.Str.ofString "_", PySem.NameKind.local), (PySem.Str.ofString "cell", PySem.NameKind.free)], isGenerator := false, isCoroutine := false, more := [] } : Scope) own_sure_of_0 := ⟨rfl, by decide +kernel, by decide +kernel, by decide +kernel, by decide +kernel⟩
theorem ok_sure_of (G : Glo mg) (hw : w = Wd.w) (D_sure_of : DefAt K mg "sure_of" st_sure_of) : FnOk P w K mg base CX0 1 D_sure_of.f D_sure_of.fd ["every", "cell"] (spD Ps F_sure_of) :=
  fn_data2 (k := 0) N_sure_of 2 5 S_sure_of rfl rfl rfl D_sure_of.ok sc_sure_of fun A outer s H E hr => by
    conv => arg 2; whnf
    exact (pssd_cons (psd_setDc (i := 2) hw (u8 hr) rfl sc_sure_of.nd rfl rfl rfl (pid_keys hw (pd_name 0 (pv 0))) bk_sure_of_0 (fun _ _ _ _ _ => (pg_tup rfl (pgs_cons (pg_name (i := 3) sc_sure_of.nd rfl (by first | exact Or.inl rfl | exact Or.inr rfl)) (pgs_cons (pg_name (i := 4) sc_sure_of.nd rfl (by first | exact Or.inl rfl | exact Or.inr rfl)) pgs_nil)))) (own_tup (own_cons (own_name (by decide)) (own_cons (own_name (by decide)) own_nil))) (fun _ _ _ _ _ => (pd_ix (pd_name 3 (pv 3)) (pd_name 1 (pv 1)))) (fun _ _ _ _ _ => pd_bl))
    (pssd_one (psd_ret (pd_if (pdt_cm (cd_eq (u64 hr)) (pd_lend hw rfl G.len (pd_name 2 (pv 2))) pd_int rfl) (pd_ix (pd_listd hw rfl rfl G.list (pd_name 2 (pv 2))) pd_int) pd_non))))
/-! is_wish -/
theorem sc_is_wish : FnScope N_is_wish ["machine", "value"] (defScope st_is_wish) := ⟨rfl, rfl, rfl, by decide +kernel, rfl, by decide +kernel, by decide +kernel⟩
theorem ok_is_wish (G : Glo mg) (hw : w = Wd.w) (D_is_wish : DefAt K mg "is_wish" st_is_wish) (D_is_number : DefAt K mg "is_number" st_is_number) (h_is_number : FnOk P w K mg base CX0 1 D_is_number.f D_is_number.fd ["value", "low", "high"] (spD Ps F_is_number)) (D_is_term : DefAtD K mg "is_term" st_is_term 8) (h_is_term : FnOk P w K mg base CX0 18 D_is_term.f D_is_term.fd ["machine", "value", "deep"] (spD Ps (F_is_term 9))) : FnOk P w K mg base CX0 19 D_is_wish.f D_is_wish.fd ["machine", "value"] (spD Ps F_is_wish) :=
  fn_data2 (k := 18) N_is_wish 2 2 S_is_wish rfl rfl rfl D_is_wish.ok sc_is_wish fun A outer s H E hr => by
    conv => arg 2; whnf
    exact (pssd_cons (psd_if (PW.pt (pdw_or (pdt_not (pdt_b (pd_isa rfl G.isinstance rfl G.tuple (pd_name 1 (pv 1))))) (pdw_or (pdt_cm (cd_ne (u64 hr)) (pd_len rfl G.len (pd_name 1 (pv 1))) pd_int rfl) (pdw_or1 (pdt_not (pdt_b (pd_asB (pd_call h_is_number (hr.mono (by omega)) rfl D_is_number.m D_is_number.ok.kp (bi_is_number D_is_number) .nil (fun _ => .nil) (pda_cons (pd_ix (pd_name 1 (pv 1)) pd_int) (pda_cons pd_int (pda_cons (pd_sub (pd_ix (pd_name 0 (pv 0)) pd_int) pd_int) pda_nil))))))))))) (pssd_one (psd_ret pd_bl)) pssd_nil)
    (pssd_one (psd_ret (pd_call2 h_is_term (hr.mono (by omega)) rfl D_is_term.m D_is_term.ok.kp (bi_is_term2 D_is_term) (pda_cons (pd_name 0 (pv 0)) (pda_cons (pd_ix (pd_name 1 (pv 1)) pd_int) pda_nil))))))
/-! need_wishes -/
theorem sc_need_wishes : FnScope N_need_wishes ["machine", "value"] (defScope st_need_wishes) := ⟨rfl, rfl, rfl, by decide +kernel, rfl, by decide +kernel, by decide +kernel⟩
theorem ok_need_wishes (G : Glo mg) (hw : w = Wd.w) (D_need_wishes : DefAt K mg "need_wishes" st_need_wishes) (D_is_wish : DefAt K mg "is_wish" st_is_wish) (h_is_wish : FnOk P w K mg base CX0 19 D_is_wish.f D_is_wish.fd ["machine", "value"] (spD Ps F_is_wish)) : FnOk P w K mg base CX0 20 D_need_wishes.f D_need_wishes.fd ["machine", "value"] (spD Ps F_need_wishes) :=
  fn_data2 (k := 19) N_need_wishes 2 4 S_need_wishes rfl rfl rfl D_need_wishes.ok sc_need_wishes fun A outer s H E hr => by
    conv => arg 2; whnf
    exact (pssd_cons (psd_if (PW.pt (pdw_or (pdt_not (pdt_b (pd_isa rfl G.isinstance rfl G.tuple (pd_name 1 (pv 1))))) (pdw_or1 (pdt_not (pdt_tru (pd_name 1 (pv 1))))))) pssd_no pssd_nil)
    (pssd_one (psd_for PassesOwn.never rfl (pid_enum rfl G.enumerate (pd_name 1 (pv 1))) (pgd_tup rfl (pgd_cons (pgd_name (pg_name (i := 2) sc_need_wishes.nd rfl (by first | exact Or.inl rfl | exact Or.inr rfl))) (pgd_cons (pgd_name (pg_name (i := 3) sc_need_wishes.nd rfl (by first | exact Or.inl rfl | exact Or.inr rfl))) pgd_nil))) (pssd_one (psd_if (PW.pt (pdw_or (pdt_not (pdt_b (pd_asB (pd_call h_is_wish (hr.mono (by omega)) rfl D_is_wish.m D_is_wish.ok.kp (bi_is_wish D_is_wish) .nil (fun _ => .nil) (pda_cons (pd_name 0 (pv 0)) (pda_cons (pd_name 3 (pv 3)) pda_nil)))))) (pdw_or1 (PW.pt (pdw_and (pdt_cm cd_gt (pd_name 2 (pv 2)) pd_int rfl) (pdw_and1 (pdt_cm cd_ge (pd_ix (pd_ix (pd_name 1 (pv 1)) (pd_sub (pd_name 2 (pv 2)) pd_int)) pd_int) (pd_ix (pd_name 3 (pv 3)) pd_int) rfl))))))) pssd_no pssd_nil)))))
/-! fulfilled -/
theorem sc_fulfilled : FnScope N_fulfilled ["held", "wishes"] (defScope st_fulfilled) := ⟨rfl, rfl, rfl, by decide +kernel, rfl, by decide +kernel, by decide +kernel⟩
theorem bk_fulfilled_0 : GSc N_fulfilled (defScope st_fulfilled) ({ kind := PySem.ScopeKind.function, names := [(PySem.Str.ofString ".0", PySem.NameKind.local), (PySem.Str.ofString "cell", PySem.NameKind.local), (PySem.Str.ofString "term", PySem.NameKind.local), (PySem.Str.ofString "held", PySem.NameKind.free)], isGenerator := true, isCoroutine := false, more := [] } : Scope) own_fulfilled_0 := ⟨⟨rfl, by decide +kernel, by decide +kernel, by decide +kernel, by decide +kernel⟩, rfl, by decide +kernel, by decide +kernel⟩
theorem ok_fulfilled (G : Glo mg) (hw : w = Wd.w) (D_fulfilled : DefAt K mg "fulfilled" st_fulfilled) {P1 : Addr} (TB : LamX.TabB base mg D_fulfilled.c P1) (hP : P1 ∈ Ps) (hPl : P1 ≠ Wd.lamP) : FnOk P w K mg base CX0 2 D_fulfilled.f D_fulfilled.fd ["held", "wishes"] (spD Ps F_fulfilled) :=
  fn_data2 (k := 1) N_fulfilled 2 4 S_fulfilled rfl rfl rfl D_fulfilled.ok sc_fulfilled fun A outer s H E hr => by
    conv => arg 2; whnf
    exact (pssd_one (psd_ret (pd_all sc_fulfilled.nd hr rfl G.all TB hP hPl rfl (pid_tup (pd_name 1 (pv 1))) bk_fulfilled_0 (fun _ _ _ _ _ _ _ => (pg_tup rfl (pgs_cons (pg_name (i := 2) sc_fulfilled.nd rfl (by first | exact Or.inl rfl | exact Or.inr rfl)) (pgs_cons (pg_name (i := 3) sc_fulfilled.nd rfl (by first | exact Or.inl rfl | exact Or.inr rfl)) pgs_nil)))) (own_tup (own_cons (own_name (by decide)) (own_cons (own_name (by decide)) own_nil))) (fun _ _ _ _ _ _ _ hg => (pd_cm (cd_eq (u64 hg)) (pd_ix (pd_name 0 (pv 0)) (pd_name 2 (pv 2))) (pd_name 3 (pv 3)) rfl)))))
/-! need_wished -/
theorem sc_need_wished : FnScope N_need_wished ["machine", "program", "many", "wishes"] (defScope st_need_wished) := ⟨rfl, rfl, rfl, by decide +kernel, rfl, by decide +kernel, by decide +kernel⟩
theorem ok_need_wished (G : Glo mg) (hw : w = Wd.w) (D_need_wished : DefAt K mg "need_wished" st_need_wished) (D_need_machine : DefAt K mg "need_machine" st_need_machine) (h_need_machine : FnOk P w K mg base CX0 3 D_need_machine.f D_need_machine.fd ["value"] (spD Ps F_need_machine)) (D_need_program : DefAt K mg "need_program" st_need_program) (h_need_program : FnOk P w K mg base CX0 4 D_need_program.f D_need_program.fd ["machine", "value"] (spD Ps F_need_program)) (D_need_many : DefAt K mg "need_many" st_need_many) (h_need_many : FnOk P w K mg base CX0 2 D_need_many.f D_need_many.fd ["value"] (spD Ps F_need_many)) (D_need_wishes : DefAt K mg "need_wishes" st_need_wishes) (h_need_wishes : FnOk P w K mg base CX0 20 D_need_wishes.f D_need_wishes.fd ["machine", "value"] (spD Ps F_need_wishes)) : FnOk P w K mg base CX0 21 D_need_wished.f D_need_wished.fd ["machine", "program", "many", "wishes"] (spD Ps F_need_wished) :=
  fn_data2 (k := 20) N_need_wished 4 4 S_need_wished rfl rfl rfl D_need_wished.ok sc_need_wished fun A outer s H E hr => by
    conv => arg 2; whnf
    exact (pssd_cons (psd_ex (pd_call h_need_machine (hr.mono (by omega)) rfl D_need_machine.m D_need_machine.ok.kp (bi_need_machine D_need_machine) .nil (fun _ => .nil) (pda_cons (pd_name 0 (pv 0)) pda_nil)))
    (pssd_cons (psd_ex (pd_call h_need_program (hr.mono (by omega)) rfl D_need_program.m D_need_program.ok.kp (bi_need_program D_need_program) .nil (fun _ => .nil) (pda_cons (pd_name 0 (pv 0)) (pda_cons (pd_name 1 (pv 1)) pda_nil))))
    (pssd_cons (psd_ex (pd_call h_need_many (hr.mono (by omega)) rfl D_need_many.m D_need_many.ok.kp (bi_need_many D_need_many) .nil (fun _ => .nil) (pda_cons (pd_name 2 (pv 2)) pda_nil)))
    (pssd_one (psd_ex (pd_call h_need_wishes (hr.mono (by omega)) rfl D_need_wishes.m D_need_wishes.ok.kp (bi_need_wishes D_need_wishes) .nil (fun _ => .nil) (pda_cons (pd_name 0 (pv 0)) (pda_cons (pd_name 3 (pv 3)) pda_nil))))))))
/-! _law_did -/
theorem sc_law_did : FnScope N_law_did ["_law_held", "_law_line"] (defScope st_law_did) := ⟨rfl, rfl, rfl, by decide +kernel, rfl, by decide +kernel, by decide +kernel⟩
theorem bk_law_did_0 : BlkOk N_law_did (defScope st_law_did) ({ kind := PySem.ScopeKind.function, names := [(PySem.Str.ofString ".0", PySem.NameKind.local), (PySem.Str.ofString "_law_one", PySem.NameKind.local), (PySem.Str.ofString "_law_held", PySem.NameKind.free)], isGenerator := false, isCoroutine := false, more := [] } : Scope) own_law_did_0 := ⟨rfl, by decide +kernel, by decide +kernel, by decide +kernel, by decide +kernel⟩
theorem ok_law_did (G : Glo mg) (hw : w = Wd.w) (D_law_did : DefAt K mg "_law_did" st_law_did) : FnOk P w K mg base CX0 1 D_law_did.f D_law_did.fd ["_law_held", "_law_line"] (spD Ps F_law_did) :=
  fn_data2 (k := 0) N_law_did 2 7 S_law_did rfl rfl rfl D_law_did.ok sc_law_did fun A outer s H E hr => by
    conv => arg 2; whnf
    exact (pssd_cons (psd_asg (pd_name 1 (pv 1)) (pgd_tup rfl (pgd_cons (pgd_name (pg_name (i := 2) sc_law_did.nd rfl (by first | exact Or.inl rfl | exact Or.inr rfl))) (pgd_cons (pgd_name (pg_name (i := 3) sc_law_did.nd rfl (by first | exact Or.inl rfl | exact Or.inr rfl))) (pgd_cons (pgd_name (pg_name (i := 4) sc_law_did.nd rfl (by first | exact Or.inl rfl | exact Or.inr rfl))) pgd_nil)))))
    (pssd_cons (psd_set (i := 5) sc_law_did.nd rfl (by first | exact Or.inl rfl | exact Or.inr rfl) (pd_if (pdt_cm cd_is (pd_name 3 (pv 3)) pd_non rfl) (pd_ix (pd_name 0 (pv 0)) (pd_ix (pd_name 4 (pv 4)) pd_int)) (pd_add (pd_tup (pda_cons (pd_name 3 (pv 3)) pda_nil)) (pd_tuple rfl G.tuple (pd_lc rfl sc_law_did.nd (pid_tup (pd_name 4 (pv 4))) bk_law_did_0 (fun _ _ _ _ _ => (pg_name (i := 6) sc_law_did.nd rfl (by first | exact Or.inl rfl | exact Or.inr rfl))) (own_name (by decide)) (fun _ _ _ _ _ => ptsd_nil) (fun _ _ _ _ _ => (pd_ix (pd_name 0 (pv 0)) (pd_name 6 (pv 6)))))))))
    (pssd_one (psd_ret (pd_add (pd_add (pd_slice (pd_name 0 (pv 0)) pdo_none (pdo_some (pd_name 2 (pv 2)))) (pd_tup (pda_cons (pd_name 5 (pv 5)) pda_nil))) (pd_slice (pd_name 0 (pv 0)) (pdo_some (pd_add (pd_name 2 (pv 2)) pd_int)) pdo_none))))))
/-! _law_deep -/
theorem sc_law_deep : FnScope N_law_deep ["_law_term"] (defScope st_law_deep) := ⟨rfl, rfl, rfl, by decide +kernel, rfl, by decide +kernel, by decide +kernel⟩
theorem bk_law_deep_0 : BlkOk N_law_deep (defScope st_law_deep) ({ kind := PySem.ScopeKind.function, names := [(PySem.Str.ofString ".0", PySem.NameKind.local), (PySem.Str.ofString "_law_part", PySem.NameKind.local), (PySem.Str.ofString "_law_deep", PySem.NameKind.globalImplicit)], isGenerator := false, isCoroutine := false, more := [] } : Scope) own_law_deep_0 := ⟨rfl, by decide +kernel, by decide +kernel, by decide +kernel, by decide +kernel⟩
theorem ok_law_deep (G : Glo mg) (hw : w = Wd.w) (D_law_deep : DefAt K mg "_law_deep" st_law_deep) : ∀ n : Nat, FnOk P w K mg base CX0 (1 * n) D_law_deep.f D_law_deep.fd ["_law_term"] (spD Ps (F_law_deep n))
  | 0 => fn_never fun vs H Q E ⟨ds, d, _, _, e, _⟩ => nomatch e
  | n + 1 => by
    have hF := ok_law_deep G hw D_law_deep n
    exact fn_data2 (k := 1 * n + 0) N_law_deep 1 2 (S_law_deep (F_law_deep n)) rfl rfl rfl D_law_deep.ok sc_law_deep fun A outer s H E hr => by
      conv => arg 2; whnf
      exact (pssd_cons (psd_if (pdt_not (pdt_b (pd_isa rfl G.isinstance rfl G.tuple (pd_name 0 (pv 0))))) (pssd_one (psd_ret pd_int)) pssd_nil)
    (pssd_one (psd_ret (pd_add pd_int (pd_max rfl rfl G.max (pd_lc rfl sc_law_deep.nd (pid_tup (pd_slice (pd_name 0 (pv 0)) (pdo_some pd_int) pdo_none)) bk_law_deep_0 (fun _ _ _ _ _ => (pg_name (i := 1) sc_law_deep.nd rfl (by first | exact Or.inl rfl | exact Or.inr rfl))) (own_name (by decide)) (fun _ _ _ _ _ => ptsd_nil) (fun _ _ _ _ _ => (pd_call hF (hr.mono (by omega)) rfl D_law_deep.m D_law_deep.ok.kp (bi_law_deep D_law_deep) .nil (fun _ => .nil) (pda_cons (pd_name 1 (pv 1)) pda_nil)))))))))
/-! _law_tame -/
theorem sc_law_tame : FnScope N_law_tame ["_law_machine_here", "_law_program_here"] (defScope st_law_tame) := ⟨rfl, rfl, rfl, by decide +kernel, rfl, by decide +kernel, by decide +kernel⟩
theorem bk_law_tame_0 : BlkOk N_law_tame (defScope st_law_tame) ({ kind := PySem.ScopeKind.function, names := [(PySem.Str.ofString ".0", PySem.NameKind.local), (PySem.Str.ofString "_law_term", PySem.NameKind.local), (PySem.Str.ofString "_law_deep", PySem.NameKind.globalImplicit)], isGenerator := false, isCoroutine := false, more := [] } : Scope) own_law_tame_0 := ⟨rfl, by decide +kernel, by decide +kernel, by decide +kernel, by decide +kernel⟩
theorem ok_law_tame (G : Glo mg) (hw : w = Wd.w) (D_law_tame : DefAt K mg "_law_tame" st_law_tame) (D_law_did : DefAt K mg "_law_did" st_law_did) (h_law_did : FnOk P w K mg base CX0 1 D_law_did.f D_law_did.fd ["_law_held", "_law_line"] (spD Ps F_law_did)) (D_law_deep : DefAt K mg "_law_deep" st_law_deep) (h_law_deep : FnOk P w K mg base CX0 12 D_law_deep.f D_law_deep.fd ["_law_term"] (spD Ps (F_law_deep 12))) : FnOk P w K mg base CX0 13 D_law_tame.f D_law_tame.fd ["_law_machine_here", "_law_program_here"] (spD Ps F_law_tame) :=
  fn_data2 (k := 12) N_law_tame 2 7 S_law_tame rfl rfl rfl D_law_tame.ok sc_law_tame fun A outer s H E hr => by
    conv => arg 2; whnf
    exact (pssd_cons (psd_par (i := 2) (j := 3) rfl sc_law_tame.nd rfl rfl (by decide) rfl rfl (pd_rg1 rfl rfl G.tuple rfl G.range (pd_ix (pd_name 0 (pv 0)) pd_int)) (pd_tup pda_nil))
    (pssd_cons (psd_for PassesOwn.never rfl (pid_tup (pd_name 1 (pv 1))) (pgd_name (pg_name (i := 4) sc_law_tame.nd rfl (by first | exact Or.inl rfl | exact Or.inr rfl))) (pssd_cons (psd_set (i := 5) sc_law_tame.nd rfl (by first | exact Or.inl rfl | exact Or.inr rfl) (pd_call h_law_did (hr.mono (by omega)) rfl D_law_did.m D_law_did.ok.kp (bi_law_did D_law_did) .nil (fun _ => .nil) (pda_cons (pd_name 2 (pv 2)) (pda_cons (pd_name 4 (pv 4)) pda_nil))))
    (pssd_one (psd_if (pdt_cm cd_lt (pd_max rfl rfl G.max (pd_lc rfl sc_law_tame.nd (pid_tup (pd_name 5 (pv 5))) bk_law_tame_0 (fun _ _ _ _ _ => (pg_name (i := 6) sc_law_tame.nd rfl (by first | exact Or.inl rfl | exact Or.inr rfl))) (own_name (by decide)) (fun _ _ _ _ _ => ptsd_nil) (fun _ _ _ _ _ => (pd_call h_law_deep (hr.mono (by omega)) rfl D_law_deep.m D_law_deep.ok.kp (bi_law_deep D_law_deep) .nil (fun _ => .nil) (pda_cons (pd_name 6 (pv 6)) pda_nil))))) pd_int rfl) (pssd_one (psd_par (i := 2) (j := 3) rfl sc_law_tame.nd rfl rfl (by decide) rfl rfl (pd_name 5 (pv 5)) (pd_add (pd_name 3 (pv 3)) (pd_tup (pda_cons (pd_name 4 (pv 4)) pda_nil))))) pssd_nil))))
    (pssd_one (psd_ret (pd_name 3 (pv 3))))))
/-! _law_times -/
theorem sc_law_times : FnScope N_law_times ["_law_program_here", "_law_many"] (defScope st_law_times) := ⟨rfl, rfl, rfl, by decide +kernel, rfl, by decide +kernel, by decide +kernel⟩
theorem ok_law_times (G : Glo mg) (hw : w = Wd.w) (D_law_times : DefAt K mg "_law_times" st_law_times) : FnOk P w K mg base CX0 1 D_law_times.f D_law_times.fd ["_law_program_here", "_law_many"] (spD Ps F_law_times) :=
  fn_data2 (k := 0) N_law_times 2 4 S_law_times rfl rfl rfl D_law_times.ok sc_law_times fun A outer s H E hr => by
    conv => arg 2; whnf
    exact (pssd_cons (psd_set (i := 2) sc_law_times.nd rfl (by first | exact Or.inl rfl | exact Or.inr rfl) (pd_tup pda_nil))
    (pssd_cons (psd_for PassesOwn.never rfl (pid_tup (pd_name 0 (pv 0))) (pgd_name (pg_name (i := 3) sc_law_times.nd rfl (by first | exact Or.inl rfl | exact Or.inr rfl))) (pssd_one (psd_set (i := 2) sc_law_times.nd rfl (by first | exact Or.inl rfl | exact Or.inr rfl) (pd_add (pd_name 2 (pv 2)) (pd_mulT (pd_tup (pda_cons (pd_name 3 (pv 3)) pda_nil)) (pd_name 1 (pv 1)))))))
    (pssd_one (psd_ret (pd_name 2 (pv 2))))))
/-! _law_ran -/
theorem sc_law_ran : FnScope N_law_ran ["_law_machine_here", "_law_program_here", "_law_losses"] (defScope st_law_ran) := ⟨rfl, rfl, rfl, by decide +kernel, rfl, by decide +kernel, by decide +kernel⟩
theorem bk_law_ran_0 : BlkOk N_law_ran (defScope st_law_ran) ({ kind := PySem.ScopeKind.function, names := [(PySem.Str.ofString ".0", PySem.NameKind.local), (PySem.Str.ofString "_law_term", PySem.NameKind.local), (PySem.Str.ofString "_law_deep", PySem.NameKind.globalImplicit)], isGenerator := false, isCoroutine := false, more := [] } : Scope) own_law_ran_0 := ⟨rfl, by decide +kernel, by decide +kernel, by decide +kernel, by decide +kernel⟩
theorem ok_law_ran (G : Glo mg) (hw : w = Wd.w) (D_law_ran : DefAt K mg "_law_ran" st_law_ran) (D_law_did : DefAt K mg "_law_did" st_law_did) (h_law_did : FnOk P w K mg base CX0 1 D_law_did.f D_law_did.fd ["_law_held", "_law_line"] (spD Ps F_law_did)) (D_law_deep : DefAt K mg "_law_deep" st_law_deep) (h_law_deep : FnOk P w K mg base CX0 12 D_law_deep.f D_law_deep.fd ["_law_term"] (spD Ps (F_law_deep 12))) : FnOk P w K mg base CX0 13 D_law_ran.f D_law_ran.fd ["_law_machine_here", "_law_program_here", "_law_losses"] (spD Ps F_law_ran) :=
  fn_data2 (k := 12) N_law_ran 3 7 S_law_ran rfl rfl rfl D_law_ran.ok sc_law_ran fun A outer s H E hr => by
    conv => arg 2; whnf
    exact (pssd_cons (psd_set (i := 3) sc_law_ran.nd rfl (by first | exact Or.inl rfl | exact Or.inr rfl) (pd_rg1 rfl rfl G.tuple rfl G.range (pd_ix (pd_name 0 (pv 0)) pd_int)))
    (pssd_cons (psd_for PassesOwn.never rfl (pid_enum rfl G.enumerate (pd_name 1 (pv 1))) (pgd_tup rfl (pgd_cons (pgd_name (pg_name (i := 4) sc_law_ran.nd rfl (by first | exact Or.inl rfl | exact Or.inr rfl))) (pgd_cons (pgd_name (pg_name (i := 5) sc_law_ran.nd rfl (by first | exact Or.inl rfl | exact Or.inr rfl))) pgd_nil))) (pssd_one (psd_if (pdt_cm (cd_notin (u65 hr)) (pd_name 4 (pv 4)) (pd_name 2 (pv 2)) rfl) (pssd_cons (psd_set (i := 3) sc_law_ran.nd rfl (by first | exact Or.inl rfl | exact Or.inr rfl) (pd_call h_law_did (hr.mono (by omega)) rfl D_law_did.m D_law_did.ok.kp (bi_law_did D_law_did) .nil (fun _ => .nil) (pda_cons (pd_name 3 (pv 3)) (pda_cons (pd_name 5 (pv 5)) pda_nil))))
    (pssd_one (psd_if (pdt_cm cd_gt (pd_max rfl rfl G.max (pd_lc rfl sc_law_ran.nd (pid_tup (pd_name 3 (pv 3))) bk_law_ran_0 (fun _ _ _ _ _ => (pg_name (i := 6) sc_law_ran.nd rfl (by first | exact Or.inl rfl | exact Or.inr rfl))) (own_name (by decide)) (fun _ _ _ _ _ => ptsd_nil) (fun _ _ _ _ _ => (pd_call h_law_deep (hr.mono (by omega)) rfl D_law_deep.m D_law_deep.ok.kp (bi_law_deep D_law_deep) .nil (fun _ => .nil) (pda_cons (pd_name 6 (pv 6)) pda_nil))))) pd_int rfl) (pssd_one (psd_ret pd_non)) pssd_nil))) pssd_nil)))
    (pssd_one (psd_ret (pd_name 3 (pv 3))))))
/-! _law_alike -/
theorem sc_law_alike : FnScope N_law_alike ["_law_found", "_law_due"] (defScope st_law_alike) := ⟨rfl, rfl, rfl, by decide +kernel, rfl, by decide +kernel, by decide +kernel⟩
theorem bk_law_alike_0 : BlkOk N_law_alike (defScope st_law_alike) ({ kind := PySem.ScopeKind.function, names := [(PySem.Str.ofString ".0", PySem.NameKind.local), (PySem.Str.ofString "_law_k", PySem.NameKind.local), (PySem.Str.ofString "_law_alike", PySem.NameKind.globalImplicit), (PySem.Str.ofString "_law_due", PySem.NameKind.free), (PySem.Str.ofString "_law_found", PySem.NameKind.free)], isGenerator := false, isCoroutine := false, more := [] } : Scope) own_law_alike_0 := ⟨rfl, by decide +kernel, by decide +kernel, by decide +kernel, by decide +kernel⟩
theorem ok_law_alike (G : Glo mg) (hw : w = Wd.w) (D_law_alike : DefAt K mg "_law_alike" st_law_alike) : ∀ n : Nat, FnOk P w K mg base CX0 (1 * n) D_law_alike.f D_law_alike.fd ["_law_found", "_law_due"] (spD Ps (F_law_alike n))
  | 0 => fn_never fun vs H Q E ⟨ds, d, _, _, e, _⟩ => nomatch e
  | n + 1 => by
    have hF := ok_law_alike G hw D_law_alike n
    exact fn_data2 (k := 1 * n + 0) N_law_alike 2 3 (S_law_alike (F_law_alike n)) rfl rfl rfl D_law_alike.ok sc_law_alike fun A outer s H E hr => by
      conv => arg 2; whnf
      exact (pssd_cons (psd_if (pdt_b (pd_isa2 rfl G.isinstance rfl G.tuple rfl G.list (pd_name 1 (pv 1)))) (pssd_cons (psd_if (PW.pt (pdw_or (pdt_not (pdt_b (pd_isa2 rfl G.isinstance rfl G.tuple rfl G.list (pd_name 0 (pv 0))))) (pdw_or1 (pdt_cm (cd_ne (u64 hr)) (pd_isa rfl G.isinstance rfl G.list (pd_name 0 (pv 0))) (pd_isa rfl G.isinstance rfl G.list (pd_name 1 (pv 1))) rfl)))) (pssd_one (psd_ret pd_bl)) pssd_nil)
    (pssd_cons (psd_if (pdt_cm (cd_ne (u64 hr)) (pd_len rfl G.len (pd_name 0 (pv 0))) (pd_len rfl G.len (pd_name 1 (pv 1))) rfl) (pssd_one (psd_ret pd_bl)) pssd_nil)
    (pssd_one (psd_ret (pd_cm (cd_eq (u64 hr)) (pd_lc rfl sc_law_alike.nd (pid_rg1 rfl G.range (pd_len rfl G.len (pd_name 1 (pv 1)))) bk_law_alike_0 (fun _ _ _ _ _ => (pg_name (i := 2) sc_law_alike.nd rfl (by first | exact Or.inl rfl | exact Or.inr rfl))) (own_name (by decide)) (fun _ _ _ _ _ => (ptsd_one (pdt_not (pdt_b (pd_asB (pd_call hF (hr.mono (by omega)) rfl D_law_alike.m D_law_alike.ok.kp (bi_law_alike D_law_alike) .nil (fun _ => .nil) (pda_cons (pd_ix (pd_name 0 (pv 0)) (pd_name 2 (pv 2))) (pda_cons (pd_ix (pd_name 1 (pv 1)) (pd_name 2 (pv 2))) pda_nil)))))))) (fun _ _ _ _ _ => (pd_name 2 (pv 2)))) (pd_lst pda_nil) rfl))))) pssd_nil)
    (pssd_cons (psd_if (PW.pt (pdw_or (pdt_cm cd_is (pd_name 1 (pv 1)) pd_non rfl) (pdw_or1 (pdt_b (pd_isa rfl G.isinstance rfl G.str (pd_name 1 (pv 1))))))) (pssd_one (psd_ret (pd_and (pd_cm (cd_eq (u64 hr)) (pd_name 0 (pv 0)) (pd_name 1 (pv 1)) rfl) (pd_one (pd_cm (cd_eq (u64 hr)) (pd_isa rfl G.isinstance rfl G.str (pd_name 0 (pv 0))) (pd_isa rfl G.isinstance rfl G.str (pd_name 1 (pv 1))) rfl))))) pssd_nil)
    (pssd_one (psd_ret (pd_and (pd_isa rfl G.isinstance rfl G.int (pd_name 0 (pv 0))) (pd_and (pd_cm (cd_eq (u64 hr)) (pd_isa rfl G.isinstance rfl G.bool (pd_name 0 (pv 0))) (pd_isa rfl G.isinstance rfl G.bool (pd_name 1 (pv 1))) rfl) (pd_one (pd_cm (cd_eq (u64 hr)) (pd_name 0 (pv 0)) (pd_name 1 (pv 1)) rfl))))))))
/-! _law_bad -/
theorem sc_law_bad : FnScope N_law_bad ["_law_machine_here", "_law_program_here", "_law_losses", "_law_wishes_here"] (defScope st_law_bad) := ⟨rfl, rfl, rfl, by decide +kernel, rfl, by decide +kernel, by decide +kernel⟩
theorem bk_law_bad_0 : BlkOk N_law_bad (defScope st_law_bad) ({ kind := PySem.ScopeKind.function, names := [(PySem.Str.ofString ".0", PySem.NameKind.local), (PySem.Str.ofString "_law_cell", PySem.NameKind.local), (PySem.Str.ofString "_law_term", PySem.NameKind.local), (PySem.Str.ofString "_law_held", PySem.NameKind.free)], isGenerator := false, isCoroutine := false, more := [] } : Scope) own_law_bad_0 := ⟨rfl, by decide +kernel, by decide +kernel, by decide +kernel, by decide +kernel⟩
theorem ok_law_bad (G : Glo mg) (hw : w = Wd.w) (D_law_bad : DefAt K mg "_law_bad" st_law_bad) (D_law_ran : DefAt K mg "_law_ran" st_law_ran) (h_law_ran : FnOk P w K mg base CX0 13 D_law_ran.f D_law_ran.fd ["_law_machine_here", "_law_program_here", "_law_losses"] (spD Ps F_law_ran)) : FnOk P w K mg base CX0 14 D_law_bad.f D_law_bad.fd ["_law_machine_here", "_law_program_here", "_law_losses", "_law_wishes_here"] (spD Ps F_law_bad) :=
  fn_data2 (k := 13) N_law_bad 4 7 S_law_bad rfl rfl rfl D_law_bad.ok sc_law_bad fun A outer s H E hr => by
    conv => arg 2; whnf
    exact (pssd_cons (psd_set (i := 4) sc_law_bad.nd rfl (by first | exact Or.inl rfl | exact Or.inr rfl) (pd_call h_law_ran (hr.mono (by omega)) rfl D_law_ran.m D_law_ran.ok.kp (bi_law_ran D_law_ran) .nil (fun _ => .nil) (pda_cons (pd_name 0 (pv 0)) (pda_cons (pd_name 1 (pv 1)) (pda_cons (pd_name 2 (pv 2)) pda_nil)))))
    (pssd_one (psd_ret (pd_cm (cd_ne (u64 hr)) (pd_lc rfl sc_law_bad.nd (pid_tup (pd_name 3 (pv 3))) bk_law_bad_0 (fun _ _ _ _ _ => (pg_tup rfl (pgs_cons (pg_name (i := 5) sc_law_bad.nd rfl (by first | exact Or.inl rfl | exact Or.inr rfl)) (pgs_cons (pg_name (i := 6) sc_law_bad.nd rfl (by first | exact Or.inl rfl | exact Or.inr rfl)) pgs_nil)))) (own_tup (own_cons (own_name (by decide)) (own_cons (own_name (by decide)) own_nil))) (fun _ _ _ _ _ => (ptsd_one (pdt_cm (cd_ne (u64 hr)) (pd_ix (pd_name 4 (pv 4)) (pd_name 5 (pv 5))) (pd_name 6 (pv 6)) rfl))) (fun _ _ _ _ _ => pd_int)) (pd_lst pda_nil) rfl))))
/-! _law_repeats -/
theorem sc_law_repeats : FnScope N_law_repeats ["_law_machine_here", "_law_program_here", "_law_many"] (defScope st_law_repeats) := ⟨rfl, rfl, rfl, by decide +kernel, rfl, by decide +kernel, by decide +kernel⟩
theorem ok_law_repeats (G : Glo mg) (hw : w = Wd.w) (D_law_repeats : DefAt K mg "_law_repeats" st_law_repeats) (D_law_did : DefAt K mg "_law_did" st_law_did) (h_law_did : FnOk P w K mg base CX0 1 D_law_did.f D_law_did.fd ["_law_held", "_law_line"] (spD Ps F_law_did)) : FnOk P w K mg base CX0 2 D_law_repeats.f D_law_repeats.fd ["_law_machine_here", "_law_program_here", "_law_many"] (spD Ps F_law_repeats) :=
  fn_data2 (k := 1) N_law_repeats 3 8 S_law_repeats rfl rfl rfl D_law_repeats.ok sc_law_repeats fun A outer s H E hr => by
    conv => arg 2; whnf
    exact (pssd_cons (psd_set (i := 3) sc_law_repeats.nd rfl (by first | exact Or.inl rfl | exact Or.inr rfl) (pd_lst (pda_cons (pd_rg1 rfl rfl G.tuple rfl G.range (pd_ix (pd_name 0 (pv 0)) pd_int)) pda_nil)))
    (pssd_cons (psd_for PassesOwn.never rfl (pid_tup (pd_name 1 (pv 1))) (pgd_name (pg_name (i := 4) sc_law_repeats.nd rfl (by first | exact Or.inl rfl | exact Or.inr rfl))) (pssd_cons (psd_set (i := 5) sc_law_repeats.nd rfl (by first | exact Or.inl rfl | exact Or.inr rfl) (pd_lst pda_nil))
    (pssd_cons (psd_for PassesOwn.never rfl (pid_lst (pd_name 3 (pv 3))) (pgd_name (pg_name (i := 6) sc_law_repeats.nd rfl (by first | exact Or.inl rfl | exact Or.inr rfl))) (pssd_one (psd_for PassesOwn.never rfl (pid_rg1 rfl G.range (pd_add (pd_name 2 (pv 2)) pd_int)) (pgd_name (pg_name (i := 7) sc_law_repeats.nd rfl (by first | exact Or.inl rfl | exact Or.inr rfl))) (pssd_cons (psd_set (i := 6) sc_law_repeats.nd rfl (by first | exact Or.inl rfl | exact Or.inr rfl) (pd_call h_law_did (hr.mono (by omega)) rfl D_law_did.m D_law_did.ok.kp (bi_law_did D_law_did) .nil (fun _ => .nil) (pda_cons (pd_name 6 (pv 6)) (pda_cons (pd_name 4 (pv 4)) pda_nil))))
    (pssd_one (psd_set (i := 5) sc_law_repeats.nd rfl (by first | exact Or.inl rfl | exact Or.inr rfl) (pd_add (pd_name 5 (pv 5)) (pd_if (pdt_cm (cd_notin (u65 hr)) (pd_name 6 (pv 6)) (pd_name 5 (pv 5)) rfl) (pd_lst (pda_cons (pd_name 6 (pv 6)) pda_nil)) (pd_lst pda_nil)))))))))
    (pssd_one (psd_set (i := 3) sc_law_repeats.nd rfl (by first | exact Or.inl rfl | exact Or.inr rfl) (pd_name 5 (pv 5)))))))
    (pssd_one (psd_ret (pd_name 3 (pv 3))))))
end
end LL
set_option Elab.async false
set_option linter.all false
set_option maxRecDepth 100000
set_option autoImplicit false
/-! The defs that change lists and dicts, as functions on data (by hand). -/
namespace LL
open PySem PySem.Spec PyProof.Rows L2
abbrev KVs := List (PyData × PyData)
/-- keep -/
def keepD (later : KVs) (pair losses : PyData) : Option KVs :=
  if isKd pair = true ∧ (nk pair).depth ≤ 8 ∧ later.length < 16777216 then
    match losses with
    | .tuple new => match dgetD later pair with
      | none => some (dputD later pair losses)
      | some (.tuple old) => if new.length < old.length then some (dputD later pair losses) else some later
      | some _ => none
    | _ => none
  else none
end LL
set_option Elab.async false
set_option linter.all false
set_option maxRecDepth 100000
set_option maxHeartbeats 1000000
set_option autoImplicit false
/-! Defs that change lists and dicts of their own, or the row: readings by data with owned slots. -/
namespace LL
open PySem PySem.Spec PyProof.Rows L2
variable [Wd]

/-- what is owned is taken away -/
def del (H : Hp) (ad : List Addr) : Hp := fun b => if b ∈ ad then none else H b
theorem del_some {H : Hp} {ad : List Addr} {b : Addr} {o : HO} (h : del H ad b = some o) : b ∉ ad ∧ H b = some o := by
  unfold del at h
  by_cases k : b ∈ ad
  · rw [if_pos k] at h; cases h
  · rw [if_neg k] at h; exact ⟨k, h⟩
theorem del_of {H : Hp} {ad : List Addr} {b : Addr} {o : HO} (n : b ∉ ad) (h : H b = some o) : del H ad b = some o := by
  unfold del
  rw [if_neg n]
  exact h
/-- what never changes stands -/
def ImmK (H H' : Hp) : Prop := ∀ a o, Imm o → H a = some o → H' a = some o
/-- a slot's thing: owned with these contents, protected while it is walked, the row -/
inductive MEnt where
  | own (d : PyData)
  | prot
  | row
abbrev MM := List (Nat × MEnt)
/-- what does not change in a body: the heap at its start, what is protected, the row's address -/
structure Frm where
  H0 : Hp
  HI : Hp
  prot : Nat → Option (Addr × List PyData)
  row : Option Addr
  scr : Addr
def Own (H : Hp) (a : Addr) : PyData → Prop
  | .list ds => ∃ xs, H a = some (.lst xs) ∧ RpA H xs ds
  | .dict kvs => Dd H a kvs
  | _ => False
/-- the script's list: tracked, or told by the fragment -/
def ScrOk (K : PySem.W.Frag) (H : Hp) (scr : Addr) (ns : List Int) : Prop := (K.lookup scr = none ∧ Rd H scr (.lst (ns.map V.int))) ∨
  ∃ (o : Obj) (its : Array Value) (n : Nat), K.lookup scr = some o ∧ o.cls = .type "list" ∧ o.dict = none ∧ o.data = .seq its n ∧ its.size ≤ sizeLine ∧ Vals (ns.map V.int) its.toList
theorem ScrOk.sq {K : PySem.W.Frag} {H : Hp} {scr : Addr} {ns : List Int} (h : ScrOk K H scr ns) : SqL K H scr (ns.map V.int) := by
  rcases h with ⟨_, h⟩ | h
  · exact .inl h
  · exact .inr h
theorem ScrOk.keep {K : PySem.W.Frag} {H H' : Hp} {scr : Addr} {ns : List Int} (h : ScrOk K H scr ns) (k : K.lookup scr = none → ∀ o, H scr = some o → H' scr = some o) : ScrOk K H' scr ns := by
  rcases h with ⟨h1, h2⟩ | h
  · refine .inl ⟨h1, ?_⟩
    rcases h2 with h2 | ⟨o, h2⟩
    · exact .inl (k h1 _ h2)
    · exact .inr ⟨o, k h1 _ h2⟩
  · exact .inr h
/-- the row [script, count, state, rest] -/
def RowOk (K : PySem.W.Frag) (H : Hp) (r scr : Addr) : Prop := ∃ (ns : List Int) (c st q : Int), H r = some (.lst [.ref scr, .int c, .int st, .int q]) ∧ ScrOk K H scr ns ∧ scr ≠ r ∧
  0 ≤ c ∧ 0 ≤ st ∧ st < 2147483647
/-- the address that a slot holds -/
def adr (σ : L2.St) (i : Nat) : Addr := match σ[i]? with
  | some (some (.ref a)) => a
  | _ => 0
def ads (σ : L2.St) (M : MM) : List Addr := M.map fun p => adr σ p.1
def EntOk (K : PySem.W.Frag) (F : Frm) (H : Hp) (σ : L2.St) (p : Nat × MEnt) : Prop := σ[p.1]? = some (some (.ref (adr σ p.1))) ∧ match p.2 with
  | .own d => Own H (adr σ p.1) d ∧ F.H0 (adr σ p.1) = none
  | .prot => ∃ ds, F.prot p.1 = some (adr σ p.1, ds) ∧ Own H (adr σ p.1) (.list ds) ∧ F.H0 (adr σ p.1) = none
  | .row => F.row = some (adr σ p.1) ∧ RowOk K H (adr σ p.1) F.scr
structure RelM (Ps : List Addr) (K : PySem.W.Frag) (F : Frm) (H : Hp) (σ : L2.St) (ρ : DEnv) (M : MM) (ts : List (V × PyData)) : Prop where
  sm : Sm (F.row.toList ++ Ps) F.H0 H
  imm : ImmK F.HI H
  ent : ∀ p ∈ M, EntOk K F H σ p
  inj : ∀ p ∈ M, ∀ q ∈ M, adr σ p.1 = adr σ q.1 → p = q
  rel : Rel (del H (ads σ M)) σ ρ
  tmp : ∀ t ∈ ts, Rp (del H (ads σ M)) t.1 t.2
section
variable {Ps : List Addr} {K : PySem.W.Frag} {F : Frm} {H H' : Hp} {σ : L2.St} {ρ : DEnv} {M : MM} {ts : List (V × PyData)}
/-- an owned thing is no table, no code, nothing that stays -/
def Mutb (H : Hp) (a : Addr) : Prop := ∃ o, H a = some o ∧ (∀ ps, o ≠ .tbl ps) ∧ (∀ q, o ≠ LamX.CodeO a q) ∧ ¬ Imm o
theorem mutb_lst {a : Addr} {xs : List V} (h : H a = some (.lst xs)) : Mutb H a := ⟨_, h, no_lst, nc_lst, fun i => by cases i⟩
theorem mutb_do {a : Addr} {w : World} {xs : List DEn} (h : H a = some (DO w a xs)) : Mutb H a := ⟨_, h, nt_do, nc_do, fun i => i.noE rfl⟩
theorem Own.mutb {a : Addr} : ∀ {d : PyData}, Own H a d → Mutb H a
  | .list _, ⟨xs, h, _⟩ => mutb_lst h
  | .dict _, ⟨xs, h, _⟩ => mutb_do h
theorem EntOk.mutb {p : Nat × MEnt} (h : EntOk K F H σ p) : Mutb H (adr σ p.1) := by
  obtain ⟨i, e⟩ := p
  cases e with
  | own d => exact Own.mutb h.2.1
  | prot =>
    obtain ⟨ds, _, h2, _⟩ := h.2
    exact Own.mutb h2
  | row =>
    obtain ⟨_, ns, c, st, q, h2, _⟩ := h.2
    exact mutb_lst h2
theorem mem_ads {a : Addr} (h : a ∈ ads σ M) : ∃ p ∈ M, adr σ p.1 = a := List.mem_map.mp h
theorem ads_mem {p : Nat × MEnt} (h : p ∈ M) : adr σ p.1 ∈ ads σ M := List.mem_map.mpr ⟨p, h, rfl⟩
theorem ad_mutb (h : ∀ p ∈ M, EntOk K F H σ p) : ∀ a ∈ ads σ M, Mutb H a := fun a ha => by
  obtain ⟨p, hp, rfl⟩ := mem_ads ha
  exact (h p hp).mutb
theorem ok_del {ad : List Addr} (k : Ok Ps H) (h : ∀ a ∈ ad, Mutb H a) : Ok Ps (del H ad) := by
  have nT : ∀ {P ps}, H P = some (.tbl ps) → P ∉ ad := fun {P ps} e hP => by
    obtain ⟨o, h1, h2, _⟩ := h P hP
    rw [e] at h1
    exact h2 ps (Option.some.inj h1).symm
  refine ⟨fun P hP => ?_, k.2.1, fun ps e pos cv hc => ?_⟩
  · obtain ⟨ps, e, t⟩ := k.1 P hP
    exact ⟨ps, del_of (nT e) e, t⟩
  · obtain ⟨c, e1, e2⟩ := k.2.2 ps (del_some e).2 pos cv hc
    refine ⟨c, e1, del_of (fun hc => ?_) e2⟩
    obtain ⟨o, h1, _, h3, _⟩ := h c hc
    rw [e2] at h1
    exact h3 _ (Option.some.inj h1).symm
theorem sm_del {ad : List Addr} : Sm Ps (del H ad) H := fun b o _ e => (del_some e).2
theorem sm_del2 {ad : List Addr} (s : Sm (ad ++ Ps) H H') : Sm Ps (del H ad) (del H' ad) := fun b o n e => by
  obtain ⟨h1, h2⟩ := del_some e
  exact del_of h1 (s b o (by simp [h1, n]) h2)
/-- a step that writes at A alone keeps what never changes -/
theorem imm_keep {A : List Addr} (k : Ok Ps H) (s : Sm (A ++ Ps) H H') (hA : ∀ a ∈ A, Mutb H a) : ∀ a o, Imm o → H a = some o → H' a = some o := fun a o i e => by
  refine s a o (fun hm => ?_) e
  rcases List.mem_append.mp hm with h | h
  · obtain ⟨o', h1, _, _, h4⟩ := hA a h
    rw [e] at h1
    cases h1
    exact h4 i
  · exact k.ne e i.noT h
theorem Own.keep {A : List Addr} {a : Addr} (k : Ok Ps H) (s : Sm (A ++ Ps) H H') (hA : ∀ a ∈ A, Mutb H a) (ha : a ∉ A) : ∀ {d : PyData}, Own H a d → Own H' a d
  | .list _, ⟨xs, h, r⟩ => ⟨xs, s a _ (by simp [ha, k.ne h no_lst]) h, RpA.keep (imm_keep k s hA) _ _ r⟩
  | .dict _, ⟨xs, h, r⟩ => ⟨xs, s a _ (by simp [ha, k.ne h nt_do]) h, RpD.keep (imm_keep k s hA) _ _ r⟩
theorem RowOk.keep {a scr : Addr} (k : Ok Ps H) (s : Sm Ps H H') (h : RowOk K H a scr) : RowOk K H' a scr := by
  obtain ⟨ns, c, st, q, h1, h2, h3, r⟩ := h
  refine ⟨ns, c, st, q, s.lst k h1, ?_, h3, r⟩
  rcases h2 with ⟨g, h2 | ⟨o, h2⟩⟩ | h2
  · exact .inl ⟨g, .inl (s.lst k h2)⟩
  · exact .inl ⟨g, .inr ⟨o, s.imm k (.frz _ _) h2⟩⟩
  · exact .inr h2
theorem Own.keep0 {a : Addr} {d : PyData} (k : Ok Ps H) (s : Sm Ps H H') (h : Own H a d) : Own H' a d := Own.keep (A := []) k s (fun a h => by cases h) (by simp) h
theorem EntOk.keep0 {p : Nat × MEnt} (k : Ok Ps H) (s : Sm Ps H H') (h : EntOk K F H σ p) : EntOk K F H' σ p := by
  obtain ⟨i, e⟩ := p
  cases e with
  | own d => exact ⟨h.1, h.2.1.keep0 k s, h.2.2⟩
  | prot =>
    obtain ⟨h1, ds, h2, h3, h4⟩ := h
    exact ⟨h1, ds, h2, h3.keep0 k s, h4⟩
  | row => exact ⟨h.1, h.2.1, h.2.2.keep k s⟩
theorem smx {A : List Addr} (s : Sm Ps H H') : Sm (A ++ Ps) H H' := fun b o n e => s b o (fun h => n (List.mem_append_right _ h)) e
theorem RelM.mut (r : RelM Ps K F H σ ρ M ts) : ∀ a ∈ ads σ M, Mutb H a := ad_mutb r.ent
theorem RelM.okd (r : RelM Ps K F H σ ρ M ts) (k : Ok Ps H) : Ok Ps (del H (ads σ M)) := ok_del k r.mut
/-- nothing owned is touched -/
theorem RelM.step (r : RelM Ps K F H σ ρ M ts) (k : Ok Ps H) (s : Sm Ps H H') : RelM Ps K F H' σ ρ M ts := by
  have kd := r.okd k
  have sd : Sm Ps (del H (ads σ M)) (del H' (ads σ M)) := sm_del2 (smx s)
  exact ⟨r.sm.trans (smx s), fun a o i e => s.imm k i (r.imm a o i e), fun p hp => (r.ent p hp).keep0 k s, r.inj, r.rel.mono kd sd, fun t ht => Rp.mono kd sd _ _ (r.tmp t ht)⟩
theorem RelM.full (r : RelM Ps K F H σ ρ M ts) (k : Ok Ps H) : Rel H σ ρ := r.rel.mono (r.okd k) sm_del
theorem RelM.drop {t : V × PyData} (r : RelM Ps K F H σ ρ M (t :: ts)) : RelM Ps K F H σ ρ M ts := ⟨r.sm, r.imm, r.ent, r.inj, r.rel, fun t ht => r.tmp t (List.mem_cons_of_mem _ ht)⟩
theorem RelM.temp {t : V × PyData} (r : RelM Ps K F H σ ρ M ts) (k : Ok Ps H) (ht : t ∈ ts) : Rp H t.1 t.2 := Rp.mono (r.okd k) sm_del _ _ (r.tmp t ht)
def isRow : MEnt → Bool
  | .row => true
  | _ => false
def rowish : PyData → Bool
  | .list [.dict [(.none, .bool true)], .int _, .int _, .int _] => true
  | _ => false
/-- the data may be held beside what is owned -/
def okM (M : MM) (d : PyData) : Prop := notL d = true ∨ ((M.all fun p => isRow p.2) = true ∧ rowish d = false)
theorem rt_del {ad : List Addr} {v : V} {d : PyData} (hm : ∀ a ∈ ad, Mutb H a) (h : Rt H v d) : Rt (del H ad) v d := Rt.keep (fun a o i e => del_of (fun ha => by
  obtain ⟨o', h1, _, _, h4⟩ := hm a ha
  rw [e] at h1
  cases h1
  exact h4 i) e) _ _ h
/-- what the fragment tells is not tracked -/
def KFree (K : PySem.W.Frag) (H : Hp) : Prop := ∀ a o, K.lookup a = some o → H a = none
theorem inv_kfree {X : Cx} {pins : List (Addr × Obj)} {s : Shared} (I : Inv X pins σ H s) : KFree X.K H := fun a o e => (I.bs a o (I.ok.mod.kin a o e)).2
theorem pe_kf {X : Cx} {e : Expr} {t : TE} (h : PE X e t) : PE X e (fun σ H Q => t σ H fun v H' => KFree X.K H' → Q v H') := ⟨fun pins s σ H Q I q => thn (h.run pins s σ H _ I q) fun v s1 ⟨x, H1, I1, rx, q1⟩ => ⟨x, H1, I1, rx, q1 (inv_kfree I1)⟩⟩
theorem row_list {r scr : Addr} {ds : List PyData} {xs : List V} (kf : KFree K H) (h : RowOk K H r scr) (e : H r = some (.lst xs)) (ra : RpA H xs ds) : rowish (.list ds) = true := by
  obtain ⟨ns, c, st, q, h1, h2, _⟩ := h
  rw [h1] at e
  cases e
  cases ra with
  | cons r1 r2 =>
    cases r2 with
    | cons r2 r3 =>
      cases r3 with
      | cons r3 r4 =>
        cases r4 with
        | cons r4 r5 =>
          cases r5
          cases r2
          cases r3
          cases r4
          generalize hv : V.ref scr = v at r1
          cases r1 with
          | tup e1 _ =>
            cases hv
            rcases h2 with ⟨_, h2 | ⟨o, h2⟩⟩ | ⟨o, its, n, h2, _⟩
            · rw [e1] at h2; cases h2
            · rw [e1] at h2; cases h2
            · rw [kf _ _ h2] at e1; cases e1
          | dct e1 _ =>
            cases hv
            rcases h2 with ⟨_, h2 | ⟨o, h2⟩⟩ | ⟨o, its, n, h2, _⟩
            · rw [e1] at h2; cases h2
            · rw [e1] at h2; unfold DO at h2; cases h2
            · rw [kf _ _ h2] at e1; cases e1
          | opl e1 => rfl
          | opd e1 =>
            cases hv
            rcases h2 with ⟨_, h2 | ⟨o, h2⟩⟩ | ⟨o, its, n, h2, _⟩
            · rw [e1] at h2; cases h2
            · rw [e1] at h2; cases h2
            · rw [kf _ _ h2] at e1; cases e1
          | _ => cases hv
/-- what a pure expression gives, beside what is owned -/
theorem RelM.push {v : V} {d : PyData} (kf : KFree K H) (r : RelM Ps K F H σ ρ M ts) (o : okM M d) (h : Rp H v d) : RelM Ps K F H σ ρ M ((v, d) :: ts) := by
  have hm := r.mut
  refine ⟨r.sm, r.imm, r.ent, r.inj, r.rel, fun t ht => ?_⟩
  rcases List.mem_cons.mp ht with rfl | ht
  · show Rp (del H (ads σ M)) v d
    cases hn : notL d with
    | true => exact (rt_del hm (h.im hn)).up
    | false =>
      rcases o with o | ⟨o1, o2⟩
      · rw [hn] at o; cases o
      · cases h with
        | @lst a xs ds e ra =>
          have ha : a ∉ ads σ M := fun ha => by
            obtain ⟨p, hp, ep⟩ := mem_ads ha
            have hent := r.ent p hp
            have hr := List.all_eq_true.mp o1 _ hp
            obtain ⟨i, me⟩ := p
            cases me with
            | row =>
              have hro := hent.2.2
              rw [ep] at hro
              have := row_list kf hro e ra
              rw [o2] at this
              cases this
            | _ => cases hr
          exact .lst (del_of ha e) (RpA.keep (fun a o i e => del_of (fun ha => by
            obtain ⟨o', h1, _, _, h4⟩ := hm a ha
            rw [e] at h1
            cases h1
            exact h4 i) e) _ _ ra)
        | _ => cases hn
  · exact r.tmp t ht
theorem adr_of {i : Nat} {a : Addr} (h : σ[i]? = some (some (.ref a))) : adr σ i = a := by
  unfold adr
  rw [h]
theorem adr_set {i j : Nat} {v : V} (h : j ≠ i) : adr (σ.set i (some v)) j = adr σ j := by
  unfold adr
  rw [List.getElem?_set_ne (Ne.symm h)]
theorem ads_set {i : Nat} {v : V} (h : ∀ p ∈ M, p.1 ≠ i) : ads (σ.set i (some v)) M = ads σ M := by
  unfold ads
  exact List.map_congr_left fun p hp => adr_set (h p hp)
theorem EntOk.set {i : Nat} {v : V} {p : Nat × MEnt} (hp : p.1 ≠ i) (h : EntOk K F H σ p) : EntOk K F H (σ.set i (some v)) p := by
  obtain ⟨j, e⟩ := p
  unfold EntOk at h ⊢
  simp only at h ⊢ hp
  rw [adr_set hp, List.getElem?_set_ne (Ne.symm hp)]
  exact h
/-- a name that holds nothing owned is set -/
theorem RelM.set {i : Nat} {v : V} {d : PyData} (r : RelM Ps K F H σ ρ M ((v, d) :: ts)) (hi : ∀ p ∈ M, p.1 ≠ i) : RelM Ps K F H (σ.set i (some v)) (ρ.set i (some d)) M ts := by
  have e : ads (σ.set i (some v)) M = ads σ M := ads_set hi
  refine ⟨r.sm, r.imm, fun p hp => (r.ent p hp).set (hi p hp), fun p hp q hq h => ?_, ?_, fun t ht => ?_⟩
  · rw [adr_set (hi p hp), adr_set (hi q hq)] at h
    exact r.inj p hp q hq h
  · rw [e]
    exact r.rel.set (r.tmp (v, d) List.mem_cons_self) i
  · rw [e]
    exact r.tmp t (List.mem_cons_of_mem _ ht)
theorem Rel.forget {ρ : DEnv} (r : Rel H σ ρ) (i : Nat) (o : Option V) : Rel H (σ.set i o) (ρ.set i none) := ⟨by rw [List.length_set, List.length_set]; exact r.len, fun j d e => by
  by_cases hj : i = j
  · subst hj
    by_cases hi : i < ρ.length
    · rw [List.getElem?_set_self hi] at e
      cases e
    · rw [List.getElem?_eq_none (by rw [List.length_set]; omega)] at e
      cases e
  · rw [List.getElem?_set_ne hj] at e ⊢
    exact r.get j d e⟩
/-- a new thing is made and owned -/
theorem RelM.new {i : Nat} {p : Addr} {o : HO} {d : PyData} (hr : F.row = none) (r : RelM Ps K F H σ ρ M ts) (k : Ok Ps H) (hi : i < σ.length) (hp : H p = none) (ho : Own (upd H p o) p d) :
    RelM Ps K F (upd H p o) (σ.set i (some (.ref p))) (ρ.set i none) ((i, .own d) :: M.filter fun q => q.1 != i) ts := by
  have r1 := r.step k (Sm.new (o := o) hp)
  have k1 := k.new (o := o) hp
  have ei : adr (σ.set i (some (.ref p))) i = p := adr_of (List.getElem?_set_self hi)
  have hM : ∀ q ∈ M.filter fun q => q.1 != i, q ∈ M ∧ q.1 ≠ i := fun q hq => by
    obtain ⟨h1, h2⟩ := List.mem_filter.mp hq
    exact ⟨h1, by simpa using h2⟩
  have h0 : F.H0 p = none := by
    cases h : F.H0 p with
    | none => rfl
    | some o' =>
      have hP : p ∉ Ps := fun z => by
        obtain ⟨ps, e, _⟩ := k.1 p z
        rw [hp] at e
        cases e
      have := r.sm p o' (by rw [hr]; simpa using hP) h
      rw [hp] at this
      cases this
  have np : ∀ q ∈ M, adr σ q.1 ≠ p := fun q hq z => by
    obtain ⟨o', h1, _⟩ := (r.ent q hq).mutb
    rw [z, hp] at h1
    cases h1
  have sub : ∀ b o', b ∉ ads σ M → (upd H p o) b = some o' → b ≠ p → b ∉ ads (σ.set i (some (.ref p))) ((i, .own d) :: M.filter fun q => q.1 != i) := fun b o' hb _ hne hm => by
    obtain ⟨q, hq, e⟩ := mem_ads hm
    rcases List.mem_cons.mp hq with rfl | hq
    · exact hne (e.symm.trans ei)
    · obtain ⟨h1, h2⟩ := hM q hq
      rw [adr_set h2] at e
      exact hb (e ▸ ads_mem h1)
  have sd : Sm Ps (del H (ads σ M)) (del (upd H p o) (ads (σ.set i (some (.ref p))) ((i, .own d) :: M.filter fun q => q.1 != i))) := fun b o' nb e => by
    obtain ⟨h1, h2⟩ := del_some e
    have hne : b ≠ p := ne_of_none h2 hp
    have h3 : (upd H p o) b = some o' := by rw [upd_ne hne]; exact h2
    exact del_of (sub b o' h1 h3 hne) h3
  refine ⟨r1.sm, r1.imm, fun q hq => ?_, fun q hq q' hq' h => ?_, (r.rel.mono (r.okd k) sd).forget i _, fun t ht => Rp.mono (r.okd k) sd _ _ (r.tmp t ht)⟩
  · rcases List.mem_cons.mp hq with rfl | hq
    · refine ⟨by show (σ.set i _)[i]? = some (some (.ref (adr _ i))); rw [ei, List.getElem?_set_self hi], ?_⟩
      show Own _ (adr _ i) d ∧ F.H0 (adr _ i) = none
      rw [ei]
      exact ⟨ho, h0⟩
    · obtain ⟨h1, h2⟩ := hM q hq
      exact (r1.ent q h1).set h2
  · rcases List.mem_cons.mp hq with rfl | hq
    · rcases List.mem_cons.mp hq' with rfl | hq'
      · rfl
      · obtain ⟨h1, h2⟩ := hM q' hq'
        have h : adr (σ.set i (some (.ref p))) i = _ := h
        rw [ei, adr_set h2] at h
        exact absurd h.symm (np q' h1)
    · obtain ⟨h1, h2⟩ := hM q hq
      rcases List.mem_cons.mp hq' with rfl | hq'
      · have h : _ = adr (σ.set i (some (.ref p))) i := h
        rw [ei, adr_set h2] at h
        exact absurd h (np q h1)
      · obtain ⟨h3, h4⟩ := hM q' hq'
        rw [adr_set h2, adr_set h4] at h
        exact r.inj q h1 q' h3 h
def setM (M : MM) (i : Nat) (d : PyData) : MM := M.map fun p => if p.1 = i then (i, .own d) else p
theorem setM_ads {i : Nat} {d : PyData} : ads σ (setM M i d) = ads σ M := by
  unfold ads setM
  rw [List.map_map]
  refine List.map_congr_left fun p _ => ?_
  show adr σ (if p.1 = i then ((i, MEnt.own d) : Nat × MEnt) else p).1 = adr σ p.1
  by_cases h : p.1 = i
  · rw [if_pos h, h]
  · rw [if_neg h]
/-- an owned thing is written -/
theorem RelM.write' {i : Nat} {d d' : PyData} (hr : F.row = none) (r : RelM Ps K F H σ ρ M ts) (k : Ok Ps H) (hi : (i, .own d) ∈ M) (hw : ∀ b o, b ∉ Ps → b ≠ adr σ i → H b = some o → H' b = some o) (ho : Own H' (adr σ i) d') : RelM Ps K F H' σ ρ (setM M i d') ts := by
  have e0 := r.ent _ hi
  have hmi : Mutb H (adr σ i) := e0.mutb
  have s1 : Sm ([adr σ i] ++ Ps) H H' := fun b o nb e => by
    have hb : b ≠ adr σ i := fun z => nb (by simp [z])
    exact hw b o (fun z => nb (by simp [z])) hb e
  have hA : ∀ a ∈ [adr σ i], Mutb H a := fun a ha => by
    rw [List.mem_singleton.mp ha]
    exact hmi
  have sd : Sm Ps (del H (ads σ M)) (del H' (ads σ (setM M i d'))) := fun b o nb e => by
    obtain ⟨h1, h2⟩ := del_some e
    have hb : b ≠ adr σ i := fun z => h1 (z ▸ ads_mem hi)
    rw [setM_ads]
    exact del_of h1 (hw b o nb hb h2)
  have hne : ∀ p ∈ M, p.1 ≠ i → adr σ p.1 ≠ adr σ i := fun p hp n z => n (congrArg Prod.fst (r.inj p hp _ hi z))
  have hmem : ∀ p ∈ setM M i d', (p = (i, .own d')) ∨ (p ∈ M ∧ p.1 ≠ i) := fun p hp => by
    obtain ⟨q, hq, e⟩ := List.mem_map.mp hp
    by_cases h : q.1 = i
    · rw [if_pos h] at e
      exact .inl e.symm
    · rw [if_neg h] at e
      subst e
      exact .inr ⟨hq, h⟩
  refine ⟨fun b o nb e => ?_, fun a o i e => imm_keep k s1 hA a o i (r.imm a o i e), fun p hp => ?_, fun p hp q hq h => ?_, r.rel.mono (r.okd k) sd, fun t ht => Rp.mono (r.okd k) sd _ _ (r.tmp t ht)⟩
  · have hb : b ≠ adr σ i := fun z => by
      have := e0.2.2
      rw [← z, e] at this
      cases this
    exact hw b o (fun z => nb (by simp [z])) hb (r.sm b o nb e)
  · rcases hmem p hp with rfl | ⟨h1, h2⟩
    · exact ⟨e0.1, ho, e0.2.2⟩
    · have hx := r.ent p h1
      have hn := hne p h1 h2
      obtain ⟨j, me⟩ := p
      cases me with
      | own d0 => exact ⟨hx.1, hx.2.1.keep k s1 hA (by simpa using hn), hx.2.2⟩
      | prot =>
        obtain ⟨h1, ds, h2, h3, h4⟩ := hx
        exact ⟨h1, ds, h2, h3.keep k s1 hA (by simpa using hn), h4⟩
      | row =>
        have := hx.2.1
        rw [hr] at this
        cases this
  · rcases hmem p hp with rfl | ⟨h1, h2⟩
    · rcases hmem q hq with rfl | ⟨h3, h4⟩
      · rfl
      · exact absurd h.symm (hne q h3 h4)
    · rcases hmem q hq with rfl | ⟨h3, h4⟩
      · exact absurd h (hne p h1 h2)
      · exact r.inj p h1 q h3 h
theorem RelM.write {i : Nat} {d d' : PyData} (hr : F.row = none) (r : RelM Ps K F H σ ρ M ts) (k : Ok Ps H) (hi : (i, .own d) ∈ M) (hw : ∀ b, b ≠ adr σ i → H' b = H b) (ho : Own H' (adr σ i) d') : RelM Ps K F H' σ ρ (setM M i d') ts :=
  r.write' hr k hi (fun b o _ hb e => by rw [hw b hb]; exact e) ho
end
end LL
set_option Elab.async false
set_option linter.all false
set_option maxRecDepth 100000
set_option maxHeartbeats 1000000
set_option autoImplicit false
/-! The readings with owned slots: expressions, tests, statements, loops. -/
namespace LL
open PySem PySem.Spec PyProof.Rows L2
variable [Wd]
inductive OutM where
  | nx (ρ : DEnv) (M : MM)
  | rt (d : PyData) (M : MM)
abbrev EM (α : Type) := DEnv → MM → (α → MM → Prop) → Prop
abbrev SM := DEnv → MM → (OutM → Prop) → Prop
section
variable {Ps : List Addr} {K : PySem.W.Frag} {F : Frm}
def tME (Ps : List Addr) (K : PySem.W.Frag) (F : Frm) (E : EM PyData) : TE := fun σ H Q => ∃ ρ M ts Φ, Ok Ps H ∧ RelM Ps K F H σ ρ M ts ∧ E ρ M Φ ∧ ∀ d M', Φ d M' → ∀ v H', Ok Ps H' → RelM Ps K F H' σ ρ M' ((v, d) :: ts) → Q v H'
def tMT (Ps : List Addr) (K : PySem.W.Frag) (F : Frm) (E : EM Bool) : TT := fun σ H Q => ∃ ρ M ts Φ, Ok Ps H ∧ RelM Ps K F H σ ρ M ts ∧ E ρ M Φ ∧ ∀ b M', Φ b M' → ∀ H', Ok Ps H' → RelM Ps K F H' σ ρ M' ts → Q b H'
def KM (Ps : List Addr) (K : PySem.W.Frag) (F : Frm) (D : Ends) : OutM → Prop
  | .nx ρ M => ∀ σ' H', Ok Ps H' → RelM Ps K F H' σ' ρ M [] → D.nx σ' H'
  | .rt d M => ∀ v σ' ρ' H', Ok Ps H' → RelM Ps K F H' σ' ρ' M [(v, d)] → D.rt v H'
def tM (Ps : List Addr) (K : PySem.W.Frag) (F : Frm) (S : SM) : TS := fun D σ H => ∃ ρ M Φ, Ok Ps H ∧ RelM Ps K F H σ ρ M [] ∧ S ρ M Φ ∧ ∀ o, Φ o → KM Ps K F D o
/-- the owned lists seen as data -/
def viewM (ρ : DEnv) : MM → DEnv
  | [] => ρ
  | (i, .own (.list ds)) :: M => (viewM ρ M).set i (some (.list ds))
  | _ :: M => viewM ρ M
theorem Rel.seen {H : Hp} {σ : L2.St} {ρ : DEnv} (r : Rel H σ ρ) {i : Nat} {v : V} {d : PyData} (hs : σ[i]? = some (some v)) (h : Rp H v d) : Rel H σ (ρ.set i (some d)) := ⟨by rw [List.length_set]; exact r.len, fun j e he => by
  by_cases hj : i = j
  · subst hj
    by_cases hi : i < ρ.length
    · rw [List.getElem?_set_self hi] at he
      cases he
      exact ⟨v, hs, h⟩
    · rw [List.getElem?_eq_none (by rw [List.length_set]; omega)] at he
      cases he
  · rw [List.getElem?_set_ne hj] at he
    exact r.get j e he⟩
theorem RelM.view {H : Hp} {σ : L2.St} {ρ : DEnv} {M : MM} {ts : List (V × PyData)} (r : RelM Ps K F H σ ρ M ts) (k : Ok Ps H) : Rel H σ (viewM ρ M) := by
  have h0 := r.full k
  have he := r.ent
  clear r
  induction M with
  | nil => exact h0
  | cons p M ih =>
    have ih := ih fun q hq => he q (List.mem_cons_of_mem _ hq)
    have hp := he p List.mem_cons_self
    obtain ⟨i, me⟩ := p
    cases me with
    | own d =>
      cases d with
      | list ds =>
        obtain ⟨h1, ⟨xs, h2, h3⟩, _⟩ := hp
        exact ih.seen h1 (.lst h2 h3)
      | _ => exact ih
    | prot => exact ih
    | row => exact ih
/-! ### expressions -/
def wP (E : DEnv → Option PyData) : EM PyData := fun ρ M Φ => ∃ d, E (viewM ρ M) = some d ∧ okM M d ∧ Φ d M
def wT (E : DEnv → Option Bool) : EM Bool := fun ρ M Φ => ∃ b, E (viewM ρ M) = some b ∧ Φ b M
variable {X : Cx} {e : Expr} {pos : Pos}
theorem me_pure {E : DEnv → Option PyData} (hK : X.K = K) (h : PE X e (tD Ps E)) : PE X e (tME Ps K F (wP E)) := pe_imp (pe_kf h) fun σ H Q ⟨ρ, M, ts, Φ, k, r, ⟨d, e1, o, φ⟩, q⟩ =>
  ⟨viewM ρ M, d, k, r.view k, e1, fun v H' s k' rp kf => q d M φ v H' k' ((r.step k s).push (hK ▸ kf) o rp)⟩
theorem mt_pure {E : DEnv → Option Bool} (h : PT X e (tT Ps E)) : PT X e (tMT Ps K F (wT E)) := pt_imp h fun σ H Q ⟨ρ, M, ts, Φ, k, r, ⟨b, e1, φ⟩, q⟩ =>
  ⟨viewM ρ M, b, k, r.view k, e1, fun H' s k' => q b M φ H' k' (r.step k s)⟩
/-! ### statements -/
def wSet (i : Nat) (E : EM PyData) : SM := fun ρ M Φ => E ρ M fun d M' => (∀ p ∈ M', p.1 ≠ i) ∧ Φ (.nx (ρ.set i (some d)) M')
def wThen (S T : SM) : SM := fun ρ M Φ => S ρ M fun o => match o with
  | .nx ρ' M' => T ρ' M' Φ
  | .rt d M' => Φ (.rt d M')
def wIf (C : EM Bool) (S T : SM) : SM := fun ρ M Φ => C ρ M fun b M' => if b = true then S ρ M' Φ else T ρ M' Φ
def wNx : SM := fun ρ M Φ => Φ (.nx ρ M)
def wRt (E : EM PyData) : SM := fun ρ M Φ => E ρ M fun d M' => Φ (.rt d M')
def wNo : SM := fun _ _ _ => False
def wEx (E : EM PyData) : SM := fun ρ M Φ => E ρ M fun _ M' => Φ (.nx ρ M')
variable {S T : SM} {E : EM PyData} {C : EM Bool}
theorem msm_set {i : Nat} {x : Str} {pos' : Pos} (hN : X.N.Nodup) (hi : X.N[i]? = some x) (hx : Loc X.env.scope x) (he : PE X e (tME Ps K F E)) (hs : swapsWith e (some (.Name x pos')) pos.line X.env = pure false := by rfl)
    (hf : X.fn x = true ∨ X.env.scope.names.lookup x = some .local := by first | exact .inl rfl | exact .inr rfl | assumption) : PS X (.Assign [.Name x pos'] e pos) (tM Ps K F (wSet i E)) :=
  ps_imp (ps_set hN hi hx he hs hf) fun D σ H ⟨ρ, M, Φ, k, r, s, q⟩ =>
    ⟨ρ, M, [], _, k, r, s, fun d M' ⟨hm, φ⟩ v H' k' r' => q _ φ _ _ k' (r'.set hm)⟩
theorem msm_ret (he : PE X e (tME Ps K F E)) : PS X (.Return (some e) pos) (tM Ps K F (wRt E)) := ps_imp (ps_ret he) fun D σ H ⟨ρ, M, Φ, k, r, s, q⟩ =>
  ⟨ρ, M, [], _, k, r, s, fun d M' φ v H' k' r' => q _ φ v _ _ H' k' r'⟩
theorem msm_ex (he : PE X e (tME Ps K F E)) (hs : swapsWith e none pos.line X.env = pure false := by rfl) : PS X (.Expr e pos) (tM Ps K F (wEx E)) := ps_imp (ps_expr he hs) fun D σ H ⟨ρ, M, Φ, k, r, s, q⟩ =>
  ⟨ρ, M, [], _, k, r, s, fun d M' φ v H' k' r' => q _ φ _ H' k' r'.drop⟩
theorem msm_if {c : Expr} {a b : List Stmt} (hc : PT X c (tMT Ps K F C)) (ha : PSs X a (tM Ps K F S)) (hb : PSs X b (tM Ps K F T)) : PS X (.If c a b pos) (tM Ps K F (wIf C S T)) :=
  ps_imp (ps_if hc ha hb) fun D σ H ⟨ρ, M, Φ, k, r, s, q⟩ =>
    ⟨ρ, M, [], _, k, r, s, fun d M' φ H' k' r' => by
      cases d with
      | true => exact iteT ⟨ρ, M', Φ, k', r', φ, q⟩
      | false => exact iteF ⟨ρ, M', Φ, k', r', φ, q⟩⟩
theorem mss_nil : PSs X [] (tM Ps K F wNx) := pss_imp pss_nil fun D σ H ⟨ρ, M, Φ, k, r, s, q⟩ => q _ s _ _ k r
theorem mss_cons {st : Stmt} {rest : List Stmt} (h1 : PS X st (tM Ps K F S)) (h2 : PSs X rest (tM Ps K F T)) : PSs X (st :: rest) (tM Ps K F (wThen S T)) :=
  pss_imp (pss_cons h1 h2) fun D σ H ⟨ρ, M, Φ, k, r, s, q⟩ => ⟨ρ, M, _, k, r, s, fun o φ => by
    cases o with
    | nx ρ' M' => exact fun σ' H' k' r' => ⟨ρ', M', Φ, k', r', φ, q⟩
    | rt d M' => exact fun v σ' ρ' H' k' r' => q _ φ v σ' ρ' H' k' r'⟩
theorem mss_one {st : Stmt} (h1 : PS X st (tM Ps K F S)) : PSs X [st] (tM Ps K F S) := pss_one h1
theorem mss_no {sts : List Stmt} : PSs X sts (tM Ps K F wNo) := pss_imp pss_never fun D σ H ⟨ρ, M, Φ, k, r, s, q⟩ => s.elim
/-! ### targets: what they set -/
def OwnM (g : TG) (vs : List Nat) (Ps : List Addr) (G : PyData → DEnv → Option DEnv) : Prop := ∀ v σ H (S : Hp) (Q : L2.St → Hp → Prop) d ρ ρ', (∀ b o, S b = some o → H b = some o) → Rp S v d → Rel S σ ρ → G d ρ = some ρ' →
  (∀ σ', Rel S σ' ρ' → (∀ i, i ∉ vs → σ'[i]? = σ[i]?) → σ'.length = σ.length → Q σ' H) → g v σ H Q
def OwnMs (g : TGs) (vs : List Nat) (Ps : List Addr) (G : List PyData → DEnv → Option DEnv) : Prop := ∀ us σ H (S : Hp) (Q : L2.St → Hp → Prop) ds ρ ρ', (∀ b o, S b = some o → H b = some o) → RpA S us ds → Rel S σ ρ → G ds ρ = some ρ' →
  (∀ σ', Rel S σ' ρ' → (∀ i, i ∉ vs → σ'[i]? = σ[i]?) → σ'.length = σ.length → Q σ' H) → g us σ H Q
theorem ownm_name {i : Nat} {vs : List Nat} (hi : i ∈ vs) : OwnM (gName i) vs Ps (gN i) := fun v σ H S Q d ρ ρ' sub rs rel e q => by
  cases e
  exact q _ (rel.set rs i) (fun j hj => List.getElem?_set_ne (fun z => hj (by rw [← z]; exact hi))) (List.length_set ..)
theorem ownm_nil {vs : List Nat} : OwnMs gNil vs Ps gNilD := fun v σ H S Q d ρ ρ' sub rs rel e q => by
  cases rs with
  | nil =>
    cases e
    exact ⟨rfl, q _ rel (fun _ _ => rfl) rfl⟩
  | cons _ _ => cases e
theorem ownm_cons {vs : List Nat} {g : TG} {gs : TGs} {G : PyData → DEnv → Option DEnv} {Gs : List PyData → DEnv → Option DEnv} (h1 : OwnM g vs Ps G) (h2 : OwnMs gs vs Ps Gs) : OwnMs (gCons g gs) vs Ps (gConsD G Gs) := fun v σ H S Q d ρ ρ' sub rs rel e q => by
  cases rs with
  | nil => cases e
  | cons s1 s2 =>
    obtain ⟨ρ1, e1, e2⟩ := Option.bind_eq_some_iff.mp e
    exact ⟨_, _, rfl, h1 _ _ _ S _ _ _ _ sub s1.up rel e1 fun σ1 rel1 w1 l1 => h2 _ _ _ S _ _ _ _ sub s2 rel1 e2 fun σ2 rel2 w2 l2 => q _ rel2 (fun i hi => (w2 i hi).trans (w1 i hi)) (l2.trans l1)⟩
theorem ownm_tup {K : PySem.W.Frag} {n : Nat} {vs : List Nat} {gs : TGs} {Gs : List PyData → DEnv → Option DEnv} (h : OwnMs gs vs Ps Gs) : OwnM (gTup K n gs) vs Ps (gTupD n Gs) := fun v σ H S Q d ρ ρ' sub rs rel e q => by
  cases rs with
  | tup e2 a2 =>
    unfold gTupD at e
    simp only at e
    obtain ⟨hl, e⟩ := ifc e
    exact ⟨_, _, rfl, SqT.of (sub _ _ e2), by rw [a2.length]; exact hl, h _ _ _ S _ _ _ _ sub a2 rel e q⟩
  | _ => cases e
theorem adr_eq {σ σ' : L2.St} {i : Nat} (h : σ'[i]? = σ[i]?) : adr σ' i = adr σ i := by
  unfold adr
  rw [h]
/-- slots that hold nothing owned are set by a target -/
theorem RelM.goal {H : Hp} {σ : L2.St} {ρ ρ' : DEnv} {M : MM} {ts : List (V × PyData)} {g : TG} {vs : List Nat} {G : PyData → DEnv → Option DEnv} {v : V} {d : PyData} {Q : L2.St → Hp → Prop} (og : OwnM g vs Ps G) (r : RelM Ps K F H σ ρ M ((v, d) :: ts)) (hG : G d ρ = some ρ') (hv : ∀ p ∈ M, p.1 ∉ vs)
    (q : ∀ σ', RelM Ps K F H σ' ρ' M ts → (∀ i, i ∉ vs → σ'[i]? = σ[i]?) → σ'.length = σ.length → Q σ' H) : g v σ H Q := by
  refine og v σ H (del H (ads σ M)) Q d ρ ρ' (fun b o e => (del_some e).2) (r.tmp (v, d) List.mem_cons_self) r.rel hG fun σ' rel' w hl => ?_
  have ea : ads σ' M = ads σ M := List.map_congr_left fun p hp => adr_eq (w _ (hv p hp))
  refine q σ' ⟨r.sm, r.imm, fun p hp => ?_, fun p hp q hq h => ?_, ?_, fun t ht => ?_⟩ w hl
  · have := r.ent p hp
    unfold EntOk at this ⊢
    rw [adr_eq (w _ (hv p hp)), w _ (hv p hp)]
    exact this
  · rw [adr_eq (w _ (hv p hp)), adr_eq (w _ (hv q hq))] at h
    exact r.inj p hp q hq h
  · rw [ea]
    exact rel'
  · rw [ea]
    exact r.tmp t (List.mem_cons_of_mem _ ht)
def wAsg (E : EM PyData) (vs : List Nat) (G : PyData → DEnv → Option DEnv) : SM := fun ρ M Φ => E ρ M fun d M' => (∀ p ∈ M', p.1 ∉ vs) ∧ ∃ ρ', G d ρ = some ρ' ∧ Φ (.nx ρ' M')
theorem msm_asg {tg : Expr} {g : TG} {vs : List Nat} {G : PyData → DEnv → Option DEnv} (he : PE X e (tME Ps K F E)) (hg : PG X tg g) (og : OwnM g vs Ps G) (hs : swapsWithSole [tg] e pos.line X.env = pure false := by rfl) (hw : swappedStores [tg] e X.env = pure none := by rfl)
    (h1 : (assignEach [tg] X.env).map (·.2) = [assign tg X.env] := by rfl) : PS X (.Assign [tg] e pos) (tM Ps K F (wAsg E vs G)) :=
  ps_imp (ps_asg he hg hs hw h1) fun D σ H ⟨ρ, M, Φ, k, r, s, q⟩ =>
    ⟨ρ, M, [], _, k, r, s, fun d M' ⟨hv, ρ', e1, φ⟩ v H' k' r' => r'.goal og e1 hv fun σ' r2 _ _ => q _ φ _ _ k' r2⟩
/-! ### loops over what never changes -/
def ItOkI (Ps : List Addr) (J : It) (ds : List PyData) (H0 : Hp) : Prop := ∀ (i : Nat) (H : Hp), ImmK H0 H → Ok Ps H →
  (∀ d, ds[i]? = some d → J.go i H ∧ ∀ x H', J.yld i H x H' → Sm Ps H H' ∧ Ok Ps H' ∧ Rt H' x d) ∧ (ds.length ≤ i → J.stop i H)
def tII (Ps : List Addr) (I : DEnv → Option (List PyData)) : TI := fun σ H R => ∃ ρ ds, Ok Ps H ∧ Rel H σ ρ ∧ I ρ = some ds ∧ ∀ J H', Sm Ps H H' → Ok Ps H' → ItOkI Ps J ds H' → R J H'
def forM (S : SM) (vs : List Nat) (G : PyData → DEnv → Option DEnv) : List PyData → SM
  | [] => fun ρ M Φ => Φ (.nx ρ M)
  | d :: r => fun ρ M Φ => (∀ p ∈ M, p.1 ∉ vs) ∧ ∃ ρ1, G d ρ = some ρ1 ∧ S ρ1 M fun o => match o with
    | .nx ρ' M' => forM S vs G r ρ' M' Φ
    | .rt x M' => Φ (.rt x M')
def wFor (I : DEnv → Option (List PyData)) (vs : List Nat) (G : PyData → DEnv → Option DEnv) (S : SM) : SM := fun ρ M Φ => ∃ ds, I (viewM ρ M) = some ds ∧ forM S vs G ds ρ M Φ
def Frm.at (F : Frm) (H : Hp) : Frm := { F with HI := H }
theorem RelM.start {H : Hp} {σ : L2.St} {ρ : DEnv} {M : MM} {ts : List (V × PyData)} (r : RelM Ps K F H σ ρ M ts) : RelM Ps K (F.at H) H σ ρ M ts := ⟨r.sm, fun _ _ _ e => e, r.ent, r.inj, r.rel, r.tmp⟩
theorem RelM.back {H1 H : Hp} {σ : L2.St} {ρ : DEnv} {M : MM} {ts : List (V × PyData)} (h : ImmK F.HI H1) (r : RelM Ps K (F.at H1) H σ ρ M ts) : RelM Ps K F H σ ρ M ts := ⟨r.sm, fun a o i e => r.imm a o i (h a o i e), r.ent, r.inj, r.rel, r.tmp⟩
theorem mss_any {body : List Stmt} (hb : ∀ F' : Frm, F'.row = F.row → F'.prot = F.prot → PSs X body (tM Ps K F' S)) : PSs X body (fun D σ H => ∃ F' : Frm, F'.row = F.row ∧ F'.prot = F.prot ∧ tM Ps K F' S D σ H) := ⟨fun pins s σ H D I ⟨F', h1, h2, h⟩ => (hb F' h1 h2).run pins s σ H D I h⟩
theorem msm_for {tg iter : Expr} {body : List Stmt} {I : DEnv → Option (List PyData)} {g : TG} {vs : List Nat} {G : PyData → DEnv → Option DEnv} (hp : PassesOwn (model X.prog X.w) X.A X.env X.xe) (hc : X.calm = true)
    (hi : PI X tg iter (tII Ps I)) (hg : PG X tg g) (og : OwnM g vs Ps G) (hb : ∀ F' : Frm, F'.row = F.row → F'.prot = F.prot → PSs X body (tM Ps K F' S)) (hs : ∀ x, foldedSetIterable iter X.env x = pure x := by intro _; rfl) : PS X (.For tg iter body [] pos) (tM Ps K F (wFor I vs G S)) :=
  ps_imp (ps_for hp hc hi hg (mss_any hb) hs) fun D σ H ⟨ρ, M, Φ, k, r, ⟨ds, e1, hF⟩, q⟩ => by
    refine ⟨viewM ρ M, ds, k, r.view k, e1, fun J H1 s1 k1 iok => ?_⟩
    have r1 := r.step k s1
    have rs : RelM Ps K (F.at H1) H1 σ ρ M [] := r1.start
    refine ⟨fun i m σ H2 => m = ds.length - i ∧ i ≤ ds.length ∧ Ok Ps H2 ∧ ∃ ρ M, RelM Ps K (F.at H1) H2 σ ρ M [] ∧ forM S vs G (ds.drop i) ρ M Φ, ⟨ds.length, rfl, Nat.zero_le _, k1, ρ, M, rs, hF⟩, ?_⟩
    rintro i m σ2 H2 ⟨rfl, hi, k2, ρ2, M2, r2, f2⟩
    obtain ⟨go, stop⟩ := iok i H2 r2.imm k2
    by_cases hlt : i < ds.length
    · rw [List.drop_eq_getElem_cons hlt] at f2
      obtain ⟨hv, ρ3, hG, hS⟩ := f2
      obtain ⟨g1, g2⟩ := go _ (List.getElem?_eq_getElem hlt)
      refine .inr ⟨g1, fun σ' H' => i + 1 ≤ ds.length ∧ Ok Ps H' ∧ ∃ ρ M, RelM Ps K (F.at H1) H' σ' ρ M [] ∧ forM S vs G (ds.drop (i + 1)) ρ M Φ, fun σ' H' n => ⟨ds.length - (i + 1), by omega, rfl, n.1, n.2⟩, fun x H' y => ?_⟩
      obtain ⟨s3, k3, rx⟩ := g2 x H' y
      have r3 := r2.step k2 s3
      have r3' : RelM Ps K (F.at H1) H' σ2 ρ2 M2 [(x, ds[i])] := ⟨r3.sm, r3.imm, r3.ent, r3.inj, r3.rel, fun t ht => by
        rw [List.mem_singleton.mp ht]
        exact (rt_del r3.mut rx).up⟩
      refine r3'.goal og hG hv fun σ4 r4 _ _ => ⟨F.at H1, rfl, rfl, ρ3, M2, _, k3, r4, hS, fun o φ => ?_⟩
      cases o with
      | nx ρ' M' => exact fun σ' H5 k5 r5 => ⟨hlt, k5, ρ', M', r5, φ⟩
      | rt d M' => exact fun v σ' ρ' H5 k5 r5 => q _ φ v σ' ρ' H5 k5 (r5.back r1.imm)
    · have hi' : i = ds.length := by omega
      subst hi'
      rw [List.drop_length] at f2
      exact .inl ⟨stop (Nat.le_refl _), q _ f2 _ _ k2 (r2.back r1.imm)⟩
/-! ### what is walked -/
theorem itoki_tup {a : Addr} {xs : List V} {ds : List PyData} {H : Hp} (e : H a = some (.tup xs)) (r : RpA H xs ds) : ItOkI Ps (Itt X.K a) ds H := fun i H1 s1 k1 => by
  have e1 := s1 _ _ (.tup _) e
  refine ⟨fun d hd => ?_, fun hl => ⟨xs, SqT.of e1, by rw [r.length]; exact hl⟩⟩
  obtain ⟨v, e2, rv⟩ := r.get hd
  refine ⟨⟨xs, v, SqT.of e1, e2⟩, fun x H' ⟨eH, hx⟩ => ?_⟩
  subst eH
  have e3 := hx xs (SqT.of e1)
  rw [e2] at e3
  cases e3
  exact ⟨.refl, k1, Rt.keep s1 _ _ rv⟩
theorem itoki_rng {a b : Int} {H : Hp} : ItOkI Ps (Itr a (b - a).toNat) (rgD a b) H := fun i H1 s1 k1 => by
  refine ⟨fun d hd => ?_, fun hl => by rw [rgD_length] at hl; exact hl⟩
  obtain ⟨h1, rfl⟩ := rgD_get hd
  refine ⟨h1, fun x H' ⟨eH, hx⟩ => ?_⟩
  subst eH hx
  exact ⟨.refl, k1, .int _⟩
theorem itoki_keys {a : Addr} {o : Obj} {xs : List DEn} {kvs : List (PyData × PyData)} {H : Hp} (e : H a = some (.frz o (DO Wd.w a xs))) (r : RpD H xs kvs) : ItOkI Ps (ItkD a o xs) (kvs.map (·.1)) H := fun i H1 s1 k1 => by
  have e1 := s1 _ _ (.frz _ _) e
  refine ⟨fun d hd => ?_, fun hl => ⟨e1, by rw [r.length]; simpa using hl⟩⟩
  rw [List.getElem?_map] at hd
  obtain ⟨p, hp, rfl⟩ := Option.map_eq_some_iff.mp hd
  obtain ⟨x, e2, rk, rv⟩ := r.get hp
  refine ⟨⟨e1, (List.getElem?_eq_some_iff.mp e2).1⟩, fun x' H' ⟨eH, en, he, hx⟩ => ?_⟩
  subst eH hx
  rw [e2] at he
  cases he
  exact ⟨.refl, k1, Rt.keep s1 _ _ rk⟩
theorem itoki_items {a : Addr} {o : Obj} {xs : List DEn} {kvs : List (PyData × PyData)} {H : Hp} (e : H a = some (.frz o (DO Wd.w a xs))) (r : RpD H xs kvs) : ItOkI Ps (ItiD a o xs) (kvs.map fun p => .tuple [p.1, p.2]) H := fun i H1 s1 k1 => by
  have e1 := s1 _ _ (.frz _ _) e
  refine ⟨fun d hd => ?_, fun hl => ⟨e1, by rw [r.length]; simpa using hl⟩⟩
  rw [List.getElem?_map] at hd
  obtain ⟨p, hp, rfl⟩ := Option.map_eq_some_iff.mp hd
  obtain ⟨x, e2, rk, rv⟩ := r.get hp
  refine ⟨⟨e1, (List.getElem?_eq_some_iff.mp e2).1⟩, fun x' H' ⟨T, en, he, hx, hT, eH⟩ => ?_⟩
  subst eH hx
  rw [e2] at he
  cases he
  have s2 : Sm Ps H1 (upd H1 T (.tup [x.2.1, x.2.2])) := .new hT
  exact ⟨s2, k1.new hT, .tup upd_same (.cons (Rp.mono k1 s2 _ _ (Rt.keep s1 _ _ rk)) (.cons (Rp.mono k1 s2 _ _ (Rt.keep s1 _ _ rv)) .nil))⟩
theorem itoki_enum {a : Addr} {xs : List V} {ds : List PyData} {H : Hp} (e : H a = some (.tup xs)) (r : RpA H xs ds) : ItOkI Ps (IteT X.K a) (enumD 0 ds) H := fun i H1 s1 k1 => by
  have e1 := s1 _ _ (.tup _) e
  have r1 := RpA.keep s1 _ _ r
  have := itok_enum (K := X.K) k1 e1 r1 i H1 .refl k1
  exact this
variable {tg l : Expr} {Ed : DEnv → Option PyData}
theorem pii_tup (h : PE X l (tD Ps Ed)) : PI X tg l (tII Ps (o1 iT Ed)) := pi_imp (pi_tup h) fun σ H R ⟨ρ, ds, k, rel, e, q⟩ => by
  obtain ⟨d, e1, e⟩ := Option.bind_eq_some_iff.mp e
  refine ⟨ρ, d, k, rel, e1, fun v H1 s1 k1 r1 => ?_⟩
  cases r1 with
  | tup h1 h2 =>
    cases e
    exact ⟨_, rfl, ⟨_, SqT.of h1⟩, q _ _ s1 k1 (itoki_tup h1 h2)⟩
  | _ => cases e
theorem pii_rg1 {a : Expr} {p : Pos} (hg : Gl X "range") (hm : X.mg "range" = none) (ha : PE X a (tD Ps Ed)) (hs : starEach [a] X.env = (false, eval a X.env) :: starEach [] X.env := by rfl) :
    PI X tg (.Call (.Name "range" p) [a] [] pos) (tII Ps (o1 iR1 Ed)) := pi_imp (pi_range1 hg hm (pa_cons ha pa_nil hs) hs) fun σ H R ⟨ρ, ds, k, rel, e, q⟩ => by
  obtain ⟨d, e1, e⟩ := Option.bind_eq_some_iff.mp e
  refine ⟨ρ, d, k, rel, e1, fun v H1 s1 k1 r1 => ?_⟩
  cases r1 with
  | int n =>
    obtain ⟨h, rfl⟩ := ifs e
    refine ⟨n, rfl, by omega, by omega, q _ _ s1 k1 ?_⟩
    have z := itoki_rng (Ps := Ps) (a := 0) (b := n) (H := H1)
    rw [Int.sub_zero] at z
    exact z
  | _ => cases e
theorem pii_keys (hw : X.w = Wd.w) (h : PE X l (tD Ps Ed)) : PI X tg l (tII Ps (o1 iKyD Ed)) := pi_imp (pi_keysD2 hw h) fun σ H R ⟨ρ, ds, k, rel, e, q⟩ => by
  obtain ⟨d, e1, e⟩ := Option.bind_eq_some_iff.mp e
  refine ⟨ρ, d, k, rel, e1, fun v H1 s1 k1 r1 => ?_⟩
  cases d with
  | dict kvs =>
    obtain ⟨hk, rfl⟩ := ifs e
    obtain ⟨d, o, xs, rfl, h1, h2⟩ := dict_kd r1 hk
    exact ⟨_, _, _, rfl, h1, q _ _ s1 k1 (itoki_keys h1 h2)⟩
  | _ => cases e
theorem pii_items {elts : List Expr} {kk : Nat} {tpos apos cpos : Pos} (hw : X.w = Wd.w) (h : PE X l (tD Ps Ed)) (hbase : attributeBase l "items" X.env (eval l X.env) = eval l X.env := by rfl) (hline : (apos.endLine == cpos.line) = true := by rfl) :
    PI X (.Tuple elts kk tpos) (.Call (.Attribute l "items" apos) [] [] cpos) (tII Ps (o1 iItD Ed)) := pi_imp (pi_itemsD2 hw h hbase hline) fun σ H R ⟨ρ, ds, k, rel, e, q⟩ => by
  obtain ⟨d, e1, e⟩ := Option.bind_eq_some_iff.mp e
  refine ⟨ρ, d, k, rel, e1, fun v H1 s1 k1 r1 => ?_⟩
  cases d with
  | dict kvs =>
    obtain ⟨hk, rfl⟩ := ifs e
    obtain ⟨d, o, xs, rfl, h1, h2⟩ := dict_kd r1 hk
    exact ⟨_, _, _, rfl, h1, q _ _ s1 k1 (itoki_items h1 h2)⟩
  | _ => cases e
theorem pii_enum {a : Expr} {p tpos : Pos} {elts : List Expr} {kk : Nat} (hg : Gl X "enumerate") (hm : X.mg "enumerate" = none) (ha : PE X a (tD Ps Ed)) (hs : starEach [a] X.env = (false, eval a X.env) :: starEach [] X.env := by rfl) :
    PI X (.Tuple elts kk tpos) (.Call (.Name "enumerate" p) [a] [] pos) (tII Ps (o1 iEn Ed)) := pi_imp (pi_enumT hg hm (pa_cons ha pa_nil hs) (by rw [hs]; rfl)) fun σ H R ⟨ρ, ds, k, rel, e, q⟩ => by
  obtain ⟨d, e1, e⟩ := Option.bind_eq_some_iff.mp e
  refine ⟨ρ, d, k, rel, e1, fun v H1 s1 k1 r1 => ?_⟩
  cases r1 with
  | tup h1 h2 =>
    cases e
    exact ⟨_, _, rfl, SqT.of h1, q _ _ s1 k1 (itoki_enum h1 h2)⟩
  | _ => cases e
end
end LL
set_option Elab.async false
set_option linter.all false
set_option maxRecDepth 100000
set_option maxHeartbeats 1000000
set_option autoImplicit false
/-! Owned lists and dicts: made, written, walked, given back; the promise of a def that has such. -/
namespace LL
open PySem PySem.Spec PyProof.Rows L2
variable [Wd]
section
variable {Ps : List Addr} {K : PySem.W.Frag} {F : Frm} {X : Cx} {e : Expr} {pos : Pos} {S : SM}
abbrev mdrop (M : MM) (i : Nat) : MM := M.filter fun q => q.1 != i
theorem mdrop_mem {M : MM} {i : Nat} {q : Nat × MEnt} (h : q ∈ mdrop M i) : q ∈ M ∧ q.1 ≠ i := by
  obtain ⟨h1, h2⟩ := List.mem_filter.mp h
  exact ⟨h1, by simpa using h2⟩
/-- x = [] -/
def wNewL (i : Nat) : SM := fun ρ M Φ => F_none i ρ ∧ Φ (.nx (ρ.set i none) ((i, .own (.list [])) :: mdrop M i))
  where F_none (i : Nat) (ρ : DEnv) : Prop := i < ρ.length
def wNewD (i : Nat) : SM := fun ρ M Φ => i < ρ.length ∧ Φ (.nx (ρ.set i none) ((i, .own (.dict [])) :: mdrop M i))
theorem msm_newL {i : Nat} {x : Str} {pos' p2 : Pos} (hr : F.row = none) (hN : X.N.Nodup) (hi : X.N[i]? = some x) (hx : Loc X.env.scope x) (hs : swapsWith (.List [] p2) (some (.Name x pos')) pos.line X.env = pure false := by rfl)
    (hf : X.fn x = true ∨ X.env.scope.names.lookup x = some .local := by first | exact .inl rfl | exact .inr rfl | assumption) : PS X (.Assign [.Name x pos'] (.List [] p2) pos) (tM Ps K F (wNewL i)) :=
  ps_imp (ps_set hN hi hx (pe_lst pa_nil) hs hf) fun D σ H ⟨ρ, M, Φ, k, r, ⟨hl, φ⟩, q⟩ => by
    refine ⟨Nat.zero_le _, fun p hp => ?_⟩
    exact q _ φ _ _ (k.new hp) (r.new hr k (by rw [← r.rel.len]; exact hl) hp ⟨[], upd_same, .nil⟩)
theorem upd_of {H H' : Hp} {p : Addr} {o : HO} (h1 : H' p = some o) (h2 : ∀ b, b ≠ p → H' b = H b) : H' = upd H p o := by
  funext b
  by_cases h : b = p
  · rw [h, upd_same, h1]
  · rw [upd_ne h, h2 b h]
theorem msm_newD {i : Nat} {x : Str} {pos' p2 : Pos} (hr : F.row = none) (hw : X.w = Wd.w) (hN : X.N.Nodup) (hi : X.N[i]? = some x) (hx : Loc X.env.scope x) (hs : swapsWith (.Dict [] [] p2) (some (.Name x pos')) pos.line X.env = pure false := by rfl)
    (hf : X.fn x = true ∨ X.env.scope.names.lookup x = some .local := by first | exact .inl rfl | exact .inr rfl | assumption) : PS X (.Assign [.Name x pos'] (.Dict [] [] p2) pos) (tM Ps K F (wNewD i)) :=
  ps_imp (ps_set hN hi hx (pe_dd0 hw) hs hf) fun D σ H ⟨ρ, M, Φ, k, r, ⟨hl, φ⟩, q⟩ => by
    intro p H' hp hd hne
    obtain ⟨xs, h1, h2⟩ := id hd
    have e := upd_of h1 hne
    rw [e] at hd ⊢
    exact q _ φ _ _ (k.new hp) (r.new hr k (by rw [← r.rel.len]; exact hl) hp hd)
/-- x.append(e) -/
def wApp (i : Nat) (E : DEnv → Option PyData) : SM := fun ρ M Φ => ∃ ds d, (i, .own (.list ds)) ∈ M ∧ E (viewM ρ M) = some d ∧ notL d = true ∧ ds.length < sizeLine ∧ Φ (.nx ρ (setM M i (.list (ds ++ [d]))))
theorem msm_app {i : Nat} {x : Str} {p1 apos cpos : Pos} {E : DEnv → Option PyData} (hr : F.row = none) (hv : PE X (.Name x p1) (tVar i)) (he : PE X e (tD Ps E))
    (hbase : attributeBase (.Name x p1) "append" X.env (eval (.Name x p1) X.env) = eval (.Name x p1) X.env := by rfl)
    (hfew : ((backTo cpos (starEach [e] X.env)).all (fun x => !x.1) && (backToKw cpos (keywordEach [] X.env)).all (fun x => x.1.isSome)
      && decide (([e] : List Expr).length + ([] : List Keyword).length + (if ([] : List Keyword).isEmpty then 0 else 1) < 30)) = true := by rfl)
    (hline : (apos.endLine == cpos.line) = true := by rfl) (hs : starEach [e] X.env = (false, eval e X.env) :: starEach [] X.env := by rfl) (hplain : (backTo cpos (starEach [] X.env)).any (·.1) = false := by rfl)
    (hsw : swapsWith (.Call (.Attribute (.Name x p1) "append" apos) [e] [] cpos) none pos.line X.env = pure false := by rfl) :
    PS X (.Expr (.Call (.Attribute (.Name x p1) "append" apos) [e] [] cpos) pos) (tM Ps K F (wApp i E)) :=
  ps_imp (ps_expr (pe_bm PySem.F.plainAttrs_list PySem.F.slot_list_append PySem.F.type_list_append mt_append hv (pa_cons he pa_nil hs) hbase hfew hline hs hplain) hsw) fun D σ H ⟨ρ, M, Φ, k, r, ⟨ds, d, hm, e1, hn, hz, φ⟩, q⟩ => by
    have he0 := r.ent _ hm
    obtain ⟨h1, ⟨xs, h2, h3⟩, h4⟩ := he0
    refine ⟨_, h1, .inl ⟨rfl, xs, SqL.of h2⟩, viewM ρ M, d, k, r.view k, e1, fun v H1 s1 k1 r1 => ?_⟩
    have r2 := r.step k s1
    have ra := RpA.mono k s1 _ _ h3
    have e2 : H1 (adr σ i) = some (.lst xs) := s1.lst k h2
    refine ⟨adr σ i, xs, v, rfl, rfl, e2, by rw [h3.length]; exact hz, ?_⟩
    have kp : ∀ a o, Imm o → H1 a = some o → (upd H1 (adr σ i) (.lst (xs ++ [v]))) a = some o := fun a o im e => by
      rw [upd_ne (ne_of e e2 im.noL)]
      exact e
    exact q _ φ _ _ (k1.put e2 no_lst nc_lst) (r2.write hr k1 hm (fun b hb => upd_ne hb) ⟨_, upd_same, RpA.append (RpA.keep kp _ _ ra) (.cons (Rt.keep kp _ _ (r1.im hn)) .nil)⟩)
/-- x = x + e -/
def wCat (i : Nat) (E : DEnv → Option PyData) : SM := fun ρ M Φ => ∃ ds ds2, (i, .own (.list ds)) ∈ M ∧ E (viewM ρ M) = some (.list ds2) ∧ ds.length + ds2.length ≤ sizeLine ∧ i < ρ.length ∧ Φ (.nx (ρ.set i none) ((i, .own (.list (ds ++ ds2))) :: mdrop M i))
theorem msm_cat {i : Nat} {x : Str} {pos' p1 p2 : Pos} {E : DEnv → Option PyData} (hr : F.row = none) (hN : X.N.Nodup) (hi : X.N[i]? = some x) (hx : Loc X.env.scope x) (hv : PE X (.Name x p1) (tVar i)) (he : PE X e (tD Ps E)) (hs : swapsWith (.BinOp (.Name x p1) .Add e p2) (some (.Name x pos')) pos.line X.env = pure false := by rfl)
    (hf : X.fn x = true ∨ X.env.scope.names.lookup x = some .local := by first | exact .inl rfl | exact .inr rfl | assumption) : PS X (.Assign [.Name x pos'] (.BinOp (.Name x p1) .Add e p2) pos) (tM Ps K F (wCat i E)) :=
  ps_imp (ps_set hN hi hx (pe_op op_cat hv he) hs hf) fun D σ H ⟨ρ, M, Φ, k, r, ⟨ds, ds2, hm, e1, hz, hl, φ⟩, q⟩ => by
    obtain ⟨h1, ⟨xs, h2, h3⟩, h4⟩ := r.ent _ hm
    refine ⟨_, h1, viewM ρ M, .list ds2, k, r.view k, e1, fun v H1 s1 k1 r1 => ?_⟩
    have r2 := r.step k s1
    have ra := RpA.mono k s1 _ _ h3
    have e2 : H1 (adr σ i) = some (.lst xs) := s1.lst k h2
    cases r1 with
    | @lst b zs _ e3 rb =>
      refine ⟨adr σ i, b, xs, zs, rfl, rfl, e2, e3, by rw [ra.length, rb.length]; exact hz, fun p hp => ?_⟩
      have kp : ∀ a o, Imm o → H1 a = some o → (upd H1 p (.lst (xs ++ zs))) a = some o := fun a o im e => by
        rw [upd_ne (ne_of_none e hp)]
        exact e
      exact q _ φ _ _ (k1.new hp) (r2.new hr k1 (by rw [← r.rel.len]; exact hl) hp ⟨_, upd_same, RpA.append (RpA.keep kp _ _ ra) (RpA.keep kp _ _ rb)⟩)
/-- x = [e, ..] -/
def wNew1 (i : Nat) (E : DEnv → Option PyData) : SM := fun ρ M Φ => ∃ ds, E (viewM ρ M) = some (.list ds) ∧ i < ρ.length ∧ Φ (.nx (ρ.set i none) ((i, .own (.list ds)) :: mdrop M i))
theorem msm_new1 {i : Nat} {x : Str} {pos' p2 : Pos} {es : List Expr} {Es : DEnv → Option (List PyData)} (hr : F.row = none) (hN : X.N.Nodup) (hi : X.N[i]? = some x) (hx : Loc X.env.scope x) (ha : PA X es (tAs Ps Es)) (hs : swapsWith (.List es p2) (some (.Name x pos')) pos.line X.env = pure false := by rfl)
    (hf : X.fn x = true ∨ X.env.scope.names.lookup x = some .local := by first | exact .inl rfl | exact .inr rfl | assumption) : PS X (.Assign [.Name x pos'] (.List es p2) pos) (tM Ps K F (wNew1 i (oL mkL Es))) :=
  ps_imp (ps_set hN hi hx (pe_lst ha) hs hf) fun D σ H ⟨ρ, M, Φ, k, r, ⟨ds, e1, hl, φ⟩, q⟩ => by
    obtain ⟨ds', e2, e3⟩ := Option.bind_eq_some_iff.mp e1
    obtain ⟨⟨h1, h2⟩, e4⟩ := ifs e3
    cases e4
    refine ⟨viewM ρ M, ds, k, r.view k, e2, fun vs H1 s1 k1 r1 => ⟨by rw [r1.length]; exact h1, fun p hp => ?_⟩⟩
    have r2 := r.step k s1
    have ra := r1.im h2
    refine q _ φ _ _ (k1.new hp) (r2.new hr k1 (by rw [← r.rel.len]; exact hl) hp ⟨vs, upd_same, RpA.keep (fun a o im e => ?_) _ _ ra⟩)
    rw [upd_ne (ne_of_none e hp)]
    exact e
/-- len(x) > n of an owned dict -/
def wLen (i : Nat) (n : Int) : EM Bool := fun _ M Φ => ∃ kvs : List (PyData × PyData), (i, .own (.dict kvs)) ∈ M ∧ Φ (decide (n < (kvs.length : Int))) M
theorem mt_len {i : Nat} {n : Int} {x y : Str} {p1 p2 p3 p4 : Pos} (hw : X.w = Wd.w) (hv : PE X (.Name x p1) (tVar i)) (hm : X.mg "len" = none) (hn : ∃ t, X.mg y = some (.int n t)) (hg : Gl X "len" := by rfl) (hgy : Gl X y := by rfl) (hdy : (y == ("__debug__" : Str)) = false := by decide)
    (hbl : bootBuiltins "len" = some (.builtin "len") := by decide +kernel) (he : starEach [.Name x p1] X.env = (false, eval (.Name x p1) X.env) :: starEach [] X.env := by rfl)
    (hm2 : behindInMarks .Gt (.Name y p3) = false := by rfl) : PT X (.Compare (.Call (.Name "len" p2) [.Name x p1] [] p4) [.Gt] [.Name y p3] pos) (tMT Ps K F (wLen i n)) := by
  obtain ⟨t, hn⟩ := hn
  exact pt_imp (pt_cmpR op_gt (pe_callB (call_len_dd hw) hg hm hbl (pa_cons hv pa_nil he) (he := he)) (pe_glob (v := .int n) hgy hn ⟨t, rfl⟩ hdy) hm2) fun σ H Q ⟨ρ, M, ts, Φ, k, r, ⟨kvs, hm, φ⟩, q⟩ => by
    obtain ⟨h1, h2, h3⟩ := r.ent _ hm
    exact ⟨_, h1, adr σ i, kvs, rfl, .inl h2, _, _, rfl, rfl, _, rfl, q _ _ φ H k r⟩
/-- x[k] = v of an owned dict -/
def wDset (i : Nat) (Ek Ev : DEnv → Option PyData) : SM := fun ρ M Φ => ∃ kvs kd vd, (i, .own (.dict kvs)) ∈ M ∧ Ev (viewM ρ M) = some vd ∧ Ek (viewM ρ M) = some kd ∧ isKd kd = true ∧ (nk kd).depth ≤ 8 ∧ notL vd = true ∧ kvs.length < sizeLine ∧ Φ (.nx ρ (setM M i (.dict (dputD kvs kd vd))))
theorem kd_notL {d : PyData} (h : isKd d = true) : notL d = true := by
  cases d with
  | list ds => simp [isKd] at h
  | _ => rfl
theorem msm_dset {i : Nat} {x : Str} {p1 p2 : Pos} {ke : Expr} {Ek Ev : DEnv → Option PyData} (hr : F.row = none) (hw : X.w = Wd.w) (hu : X.A.units + 9 < cLine) (hv : PE X (.Name x p1) (tVar i)) (hk : PE X ke (tD Ps Ek)) (he : PE X e (tD Ps Ev))
    (ha : ∀ v, assign (.Subscript (.Name x p1) ke p2) X.env v = (do
      let ov ← holding [v] (eval (.Name x p1) X.env)
      let iv ← holding [v, ov] (eval ke X.env)
      standAt p2
      holding [v, ov, iv] (setItem ov iv v)
      release [v, ov, iv] []) := by intro _; rfl)
    (hs : swapsWithSole [.Subscript (.Name x p1) ke p2] e pos.line X.env = pure false := by rfl) (hsw : swappedStores [.Subscript (.Name x p1) ke p2] e X.env = pure none := by rfl)
    (h1 : (assignEach [.Subscript (.Name x p1) ke p2] X.env).map (·.2) = [assign (.Subscript (.Name x p1) ke p2) X.env] := by rfl) :
    PS X (.Assign [.Subscript (.Name x p1) ke p2] e pos) (tM Ps K F (wDset i Ek Ev)) :=
  ps_imp (ps_asg he (pg_sub hv hk (set_dd hw hu) ha) hs hsw h1) fun D σ H ⟨ρ, M, Φ, k, r, ⟨kvs, kd, vd, hm, e1, e2, h1, h2, h3, h4, φ⟩, q⟩ => by
    obtain ⟨g1, g2, g3⟩ := r.ent _ hm
    refine ⟨viewM ρ M, vd, k, r.view k, e1, fun v H1 s1 k1 r1 => ⟨_, g1, viewM ρ M, kd, k1, (r.view k).mono k s1, e2, fun u H2 s2 k2 r2 => ?_⟩⟩
    have rr := (r.step k s1).step k1 s2
    obtain ⟨_, d2, _⟩ := rr.ent _ hm
    refine ⟨adr σ i, kvs, kd, vd, rfl, d2, r2.im (kd_notL h1), h1, h2, Rp.mono k1 s2 _ _ (r1.im h3), h4, fun H' hd hne => ?_⟩
    obtain ⟨xs, z1, _⟩ := id d2
    have ok' : Ok Ps H' := by
      obtain ⟨ys, y1, _⟩ := id hd
      rw [upd_of y1 hne]
      exact k2.put z1 nt_do nc_do
    exact q _ φ _ _ ok' (rr.write hr k2 hm hne hd)
/-- found.append(later): the dict stays as it is from here on -/
def wAppD (i j : Nat) : SM := fun ρ M Φ => i ≠ j ∧ ∃ ds kvs, (i, .own (.list ds)) ∈ M ∧ (j, .own (.dict kvs)) ∈ M ∧ ds.length < sizeLine ∧ Φ (.nx ρ (setM (mdrop M j) i (.list (ds ++ [.dict kvs]))))
/-- a dict that is owned is locked: it is data -/
theorem RelM.lock {H : Hp} {σ : L2.St} {ρ : DEnv} {M : MM} {j : Nat} {kvs : List (PyData × PyData)} (hr : F.row = none) (r : RelM Ps K F H σ ρ M []) (k : Ok Ps H) (hm : (j, .own (.dict kvs)) ∈ M) :
    ∃ xs, H (adr σ j) = some (DO Wd.w (adr σ j) xs) ∧ ∀ o, Ok Ps (upd H (adr σ j) (.frz o (DO Wd.w (adr σ j) xs))) ∧ RelM Ps K F (upd H (adr σ j) (.frz o (DO Wd.w (adr σ j) xs))) σ ρ (mdrop M j) [(.ref (adr σ j), .dict kvs)] := by
  obtain ⟨g1, ⟨xs, g2, g3⟩, g4⟩ := r.ent _ hm
  refine ⟨xs, g2, fun o => ?_⟩
  have hmj : Mutb H (adr σ j) := mutb_do g2
  have hne : ∀ p ∈ mdrop M j, adr σ p.1 ≠ adr σ j := fun p hp z => (mdrop_mem hp).2 (congrArg Prod.fst (r.inj p (mdrop_mem hp).1 _ hm z))
  have s1 : Sm ([adr σ j] ++ Ps) H (upd H (adr σ j) (.frz o (DO Wd.w (adr σ j) xs))) := fun b u nb e => by
    have hb : b ≠ adr σ j := fun z => nb (by simp [z])
    rw [upd_ne hb]
    exact e
  have hA : ∀ a ∈ [adr σ j], Mutb H a := fun a ha => by
    rw [List.mem_singleton.mp ha]
    exact hmj
  have ok' := k.put (o' := .frz o (DO Wd.w (adr σ j) xs)) g2 nt_do nc_do
  have ents : ∀ p ∈ mdrop M j, EntOk K F (upd H (adr σ j) (.frz o (DO Wd.w (adr σ j) xs))) σ p := fun p hp => by
    have hx := r.ent p (mdrop_mem hp).1
    have hn := hne p hp
    obtain ⟨i, me⟩ := p
    cases me with
    | own d0 => exact ⟨hx.1, hx.2.1.keep k s1 hA (by simpa using hn), hx.2.2⟩
    | prot =>
      obtain ⟨h1, ds, h2, h3, h4⟩ := hx
      exact ⟨h1, ds, h2, h3.keep k s1 hA (by simpa using hn), h4⟩
    | row =>
      have := hx.2.1
      rw [hr] at this
      cases this
  have sd : Sm Ps (del H (ads σ M)) (del (upd H (adr σ j) (.frz o (DO Wd.w (adr σ j) xs))) (ads σ (mdrop M j))) := fun b u nb e => by
    obtain ⟨h1, h2⟩ := del_some e
    have hb : b ≠ adr σ j := fun z => h1 (z ▸ ads_mem hm)
    refine del_of (fun z => h1 ?_) (by rw [upd_ne hb]; exact h2)
    obtain ⟨p, hp, rfl⟩ := mem_ads z
    exact ads_mem (mdrop_mem hp).1
  have immk : ∀ a u, Imm u → H a = some u → (upd H (adr σ j) (.frz o (DO Wd.w (adr σ j) xs))) a = some u := imm_keep k s1 hA
  have hmut : ∀ a ∈ ads σ (mdrop M j), Mutb (upd H (adr σ j) (.frz o (DO Wd.w (adr σ j) xs))) a := ad_mutb ents
  refine ⟨ok', ⟨fun b u nb e => ?_, fun a u i e => immk a u i (r.imm a u i e), ents, fun p hp q hq h => r.inj p (mdrop_mem hp).1 q (mdrop_mem hq).1 h, r.rel.mono (r.okd k) sd, fun t ht => ?_⟩⟩
  · have hb : b ≠ adr σ j := fun z => by
      rw [← z, e] at g4
      cases g4
    rw [upd_ne hb]
    exact r.sm b u nb e
  · rw [List.mem_singleton.mp ht]
    exact (rt_del hmut (.dct upd_same (RpD.keep immk _ _ g3))).up
theorem msm_appD {i j : Nat} {x y : Str} {p1 p2 apos cpos : Pos} (hr : F.row = none) (hv : PE X (.Name x p1) (tVar i)) (hvj : PE X (.Name y p2) (tVar j))
    (hbase : attributeBase (.Name x p1) "append" X.env (eval (.Name x p1) X.env) = eval (.Name x p1) X.env := by rfl)
    (hfew : ((backTo cpos (starEach [.Name y p2] X.env)).all (fun x => !x.1) && (backToKw cpos (keywordEach [] X.env)).all (fun x => x.1.isSome)
      && decide (([.Name y p2] : List Expr).length + ([] : List Keyword).length + (if ([] : List Keyword).isEmpty then 0 else 1) < 30)) = true := by rfl)
    (hline : (apos.endLine == cpos.line) = true := by rfl) (hs : starEach [.Name y p2] X.env = (false, eval (.Name y p2) X.env) :: starEach [] X.env := by rfl) (hplain : (backTo cpos (starEach [] X.env)).any (·.1) = false := by rfl)
    (hsw : swapsWith (.Call (.Attribute (.Name x p1) "append" apos) [.Name y p2] [] cpos) none pos.line X.env = pure false := by rfl) :
    PS X (.Expr (.Call (.Attribute (.Name x p1) "append" apos) [.Name y p2] [] cpos) pos) (tM Ps K F (wAppD i j)) :=
  ps_imp (ps_freeze (ps_expr (pe_bm PySem.F.plainAttrs_list PySem.F.slot_list_append PySem.F.type_list_append mt_append hv (pa_cons hvj pa_nil hs) hbase hfew hline hs hplain) hsw)) fun D σ H ⟨ρ, M, Φ, k, r, ⟨hij, ds, kvs, hmi, hmj, hz, φ⟩, q⟩ => by
    obtain ⟨xs, e1, hl⟩ := r.lock hr k hmj
    refine ⟨adr σ j, _, e1, True.intro, fun o => ?_⟩
    obtain ⟨ok', r'⟩ := hl o
    have hmi' : (i, MEnt.own (.list ds)) ∈ mdrop M j := List.mem_filter.mpr ⟨hmi, by simpa using hij⟩
    obtain ⟨h1, ⟨ys, h2, h3⟩, h4⟩ := r'.ent _ hmi'
    obtain ⟨hj1, _⟩ := r.ent _ hmj
    refine ⟨_, h1, .inl ⟨rfl, ys, SqL.of h2⟩, _, hj1, adr σ i, ys, _, rfl, rfl, h2, by rw [h3.length]; exact hz, ?_⟩
    have rt : Rt _ (.ref (adr σ j)) (.dict kvs) := (r'.temp ok' List.mem_cons_self).im rfl
    have kp : ∀ a u, Imm u → (upd H (adr σ j) (.frz o (DO Wd.w (adr σ j) xs))) a = some u → (upd (upd H (adr σ j) (.frz o (DO Wd.w (adr σ j) xs))) (adr σ i) (.lst (ys ++ [.ref (adr σ j)]))) a = some u := fun a u im e => by
      rw [upd_ne (ne_of e h2 im.noL)]
      exact e
    exact q _ φ _ _ (ok'.put h2 no_lst nc_lst) (r'.drop.write hr ok' hmi' (fun b hb => upd_ne hb) ⟨_, upd_same, RpA.append (RpA.keep kp _ _ h3) (.cons (Rt.keep kp _ _ rt) .nil)⟩)
/-- x = later: the dict stays as it is from here on -/
def wFrz (i j : Nat) : SM := fun ρ M Φ => ∃ kvs, (j, .own (.dict kvs)) ∈ M ∧ (∀ p ∈ mdrop M j, p.1 ≠ i) ∧ Φ (.nx (ρ.set i (some (.dict kvs))) (mdrop M j))
theorem msm_frz {i j : Nat} {x y : Str} {pos' p2 : Pos} (hr : F.row = none) (hN : X.N.Nodup) (hi : X.N[i]? = some x) (hx : Loc X.env.scope x) (hvj : PE X (.Name y p2) (tVar j)) (hs : swapsWith (.Name y p2) (some (.Name x pos')) pos.line X.env = pure false := by rfl)
    (hf : X.fn x = true ∨ X.env.scope.names.lookup x = some .local := by first | exact .inl rfl | exact .inr rfl | assumption) : PS X (.Assign [.Name x pos'] (.Name y p2) pos) (tM Ps K F (wFrz i j)) :=
  ps_imp (ps_freeze (ps_set hN hi hx hvj hs hf)) fun D σ H ⟨ρ, M, Φ, k, r, ⟨kvs, hmj, hni, φ⟩, q⟩ => by
    obtain ⟨xs, e1, hl⟩ := r.lock hr k hmj
    refine ⟨adr σ j, _, e1, True.intro, fun o => ?_⟩
    obtain ⟨ok', r'⟩ := hl o
    obtain ⟨hj1, _⟩ := r.ent _ hmj
    exact ⟨_, hj1, q _ φ _ _ ok' (r'.set hni)⟩
/-- return x -/
def wRetL (i : Nat) : SM := fun ρ M Φ => ∃ ds, (i, .own (.list ds)) ∈ M ∧ Φ (.rt (.list ds) (mdrop M i))
theorem RelM.free {H : Hp} {σ : L2.St} {ρ : DEnv} {M : MM} {ts : List (V × PyData)} {i : Nat} {me : MEnt} (r : RelM Ps K F H σ ρ M ts) (k : Ok Ps H) (hm : (i, me) ∈ M) : RelM Ps K F H σ ρ (mdrop M i) ts ∧ adr σ i ∉ ads σ (mdrop M i) := by
  have sub : ∀ a, a ∈ ads σ (mdrop M i) → a ∈ ads σ M := fun a ha => by
    obtain ⟨p, hp, rfl⟩ := mem_ads ha
    exact ads_mem (mdrop_mem hp).1
  have sd : Sm Ps (del H (ads σ M)) (del H (ads σ (mdrop M i))) := fun b o nb e => by
    obtain ⟨h1, h2⟩ := del_some e
    exact del_of (fun z => h1 (sub b z)) h2
  refine ⟨⟨r.sm, r.imm, fun p hp => r.ent p (mdrop_mem hp).1, fun p hp q hq h => r.inj p (mdrop_mem hp).1 q (mdrop_mem hq).1 h, r.rel.mono (r.okd k) sd, fun t ht => Rp.mono (r.okd k) sd _ _ (r.tmp t ht)⟩, fun z => ?_⟩
  obtain ⟨p, hp, e⟩ := mem_ads z
  obtain ⟨h1, h2⟩ := mdrop_mem hp
  exact h2 (congrArg Prod.fst (r.inj p h1 _ hm e))
theorem RelM.give {H : Hp} {σ : L2.St} {ρ : DEnv} {M : MM} {ts : List (V × PyData)} {i : Nat} {ds : List PyData} (r : RelM Ps K F H σ ρ M ts) (k : Ok Ps H) (hm : (i, .own (.list ds)) ∈ M) : RelM Ps K F H σ ρ (mdrop M i) ((.ref (adr σ i), .list ds) :: ts) := by
  obtain ⟨r1, hn⟩ := r.free k hm
  obtain ⟨h1, ⟨xs, h2, h3⟩, h4⟩ := r.ent _ hm
  refine ⟨r1.sm, r1.imm, r1.ent, r1.inj, r1.rel, fun t ht => ?_⟩
  rcases List.mem_cons.mp ht with rfl | ht
  · refine .lst (del_of hn h2) (RpA.keep (fun a o im e => del_of (fun ha => ?_) e) _ _ h3)
    obtain ⟨o', g1, _, _, g4⟩ := r1.mut a ha
    rw [e] at g1
    cases g1
    exact g4 im
  · exact r1.tmp t ht
theorem msm_retL {i : Nat} {x : Str} {p1 : Pos} (hv : PE X (.Name x p1) (tVar i)) : PS X (.Return (some (.Name x p1)) pos) (tM Ps K F (wRetL i)) := ps_imp (ps_ret hv) fun D σ H ⟨ρ, M, Φ, k, r, ⟨ds, hm, φ⟩, q⟩ => by
  obtain ⟨h1, _⟩ := r.ent _ hm
  exact ⟨_, h1, q _ φ _ σ ρ H k (r.give k hm)⟩
/-! ### the walk of an owned list -/
def Frm.guard (F : Frm) (i : Nat) (a : Addr) (ds : List PyData) : Frm := { F with prot := fun j => if j = i then some (a, ds) else F.prot j }
def guardM (M : MM) (i : Nat) : MM := M.map fun p => if p.1 = i then (i, .prot) else p
def unguardM (M : MM) (i : Nat) (ds : List PyData) : MM := M.map fun p => if p.1 = i then (i, .own (.list ds)) else p
def forML (S : SM) (i : Nat) (vs : List Nat) (G : PyData → DEnv → Option DEnv) : List PyData → SM
  | [] => fun ρ M Φ => (i, .prot) ∈ M ∧ Φ (.nx ρ M)
  | d :: r => fun ρ M Φ => (i, .prot) ∈ M ∧ (∀ p ∈ M, p.1 ∉ vs) ∧ ∃ ρ1, G d ρ = some ρ1 ∧ S ρ1 M fun o => match o with
    | .nx ρ' M' => forML S i vs G r ρ' M' Φ
    | .rt x M' => False
def wForL (i : Nat) (vs : List Nat) (G : PyData → DEnv → Option DEnv) (S : SM) : SM := fun ρ M Φ => ∃ ds, (i, .own (.list ds)) ∈ M ∧ (M.all fun p => match p.2 with | .prot => false | _ => true) = true ∧ forML S i vs G ds ρ (guardM M i) fun o => match o with
  | .nx ρ' M' => Φ (.nx ρ' (unguardM M' i ds))
  | .rt _ _ => False
theorem ads_map {σ : L2.St} {M : MM} {i : Nat} {me : MEnt} : ads σ (M.map fun p => if p.1 = i then (i, me) else p) = ads σ M := by
  unfold ads
  rw [List.map_map]
  refine List.map_congr_left fun p _ => ?_
  show adr σ (if p.1 = i then ((i, me) : Nat × MEnt) else p).1 = adr σ p.1
  by_cases h : p.1 = i
  · rw [if_pos h, h]
  · rw [if_neg h]
theorem mem_swap {M : MM} {i : Nat} {me : MEnt} {p : Nat × MEnt} (h : p ∈ M.map fun p => if p.1 = i then (i, me) else p) : (p = (i, me) ∧ ∃ q ∈ M, q.1 = i) ∨ (p ∈ M ∧ p.1 ≠ i) := by
  obtain ⟨q, hq, e⟩ := List.mem_map.mp h
  by_cases hi : q.1 = i
  · rw [if_pos hi] at e
    exact .inl ⟨e.symm, q, hq, hi⟩
  · rw [if_neg hi] at e
    subst e
    exact .inr ⟨hq, hi⟩
theorem inj_swap {σ : L2.St} {M : MM} {i : Nat} {me : MEnt} (inj : ∀ p ∈ M, ∀ q ∈ M, adr σ p.1 = adr σ q.1 → p = q) : ∀ p ∈ (M.map fun p => if p.1 = i then (i, me) else p), ∀ q ∈ (M.map fun p => if p.1 = i then (i, me) else p), adr σ p.1 = adr σ q.1 → p = q := fun p hp q hq h => by
  rcases mem_swap hp with ⟨rfl, p', hp', ep⟩ | ⟨h1, h2⟩
  · rcases mem_swap hq with ⟨rfl, q', hq', eq'⟩ | ⟨h3, h4⟩
    · rfl
    · have : p' = q := inj p' hp' q h3 (by rw [ep]; exact h)
      exact absurd (this ▸ ep) h4
  · rcases mem_swap hq with ⟨rfl, q', hq', eq'⟩ | ⟨h3, h4⟩
    · have : p = q' := inj p h1 q' hq' (by rw [eq']; exact h)
      exact absurd (this ▸ eq') h2
    · exact inj p h1 q h3 h
theorem RelM.guard {H : Hp} {σ : L2.St} {ρ : DEnv} {M : MM} {ts : List (V × PyData)} {i : Nat} {ds : List PyData} (r : RelM Ps K F H σ ρ M ts) (hm : (i, .own (.list ds)) ∈ M) (hp : (M.all fun p => match p.2 with | .prot => false | _ => true) = true) : RelM Ps K (F.guard i (adr σ i) ds) H σ ρ (guardM M i) ts := by
  refine ⟨r.sm, r.imm, fun p hp' => ?_, inj_swap r.inj, by rw [guardM, ads_map]; exact r.rel, by rw [guardM, ads_map]; exact r.tmp⟩
  rcases mem_swap hp' with ⟨rfl, _⟩ | ⟨h1, h2⟩
  · obtain ⟨h1, h2, h3⟩ := r.ent _ hm
    exact ⟨h1, ds, if_pos rfl, h2, h3⟩
  · have := r.ent p h1
    have hpr := List.all_eq_true.mp hp p h1
    obtain ⟨j, me⟩ := p
    cases me with
    | own d => exact this
    | prot => cases hpr
    | row => exact this
theorem RelM.unguard {H : Hp} {σ : L2.St} {ρ : DEnv} {M : MM} {ts : List (V × PyData)} {i : Nat} {a : Addr} {ds : List PyData} (r : RelM Ps K (F.guard i a ds) H σ ρ M ts) (hm : (i, .prot) ∈ M) (hp : F.prot = fun _ => none) : RelM Ps K F H σ ρ (unguardM M i ds) ts := by
  refine ⟨r.sm, r.imm, fun p hp' => ?_, inj_swap r.inj, by rw [unguardM, ads_map]; exact r.rel, by rw [unguardM, ads_map]; exact r.tmp⟩
  rcases mem_swap hp' with ⟨rfl, _⟩ | ⟨h1, h2⟩
  · obtain ⟨h1, ds', h2, h3, h4⟩ := r.ent _ hm
    have h2 : (if i = i then some (a, ds) else F.prot i) = some (adr σ i, ds') := h2
    rw [if_pos rfl] at h2
    cases h2
    exact ⟨h1, h3, h4⟩
  · have := r.ent p h1
    obtain ⟨j, me⟩ := p
    cases me with
    | own d => exact this
    | prot =>
      obtain ⟨_, ds', g2, _⟩ := this
      have g2 : (if j = i then some (a, ds) else F.prot j) = some (adr σ j, ds') := g2
      rw [if_neg h2, hp] at g2
      cases g2
    | row => exact this
theorem msm_forL {tg : Expr} {body : List Stmt} {x : Str} {p1 : Pos} {i : Nat} {g : TG} {vs : List Nat} {G : PyData → DEnv → Option DEnv} (hF : F.prot = fun _ => none) (hp : PassesOwn (model X.prog X.w) X.A X.env X.xe) (hc : X.calm = true)
    (hv : PE X (.Name x p1) (tVar i)) (hg : PG X tg g) (og : OwnM g vs Ps G) (hb : ∀ F' : Frm, F'.row = F.row → PSs X body (tM Ps K F' S)) (hs : ∀ y, foldedSetIterable (.Name x p1) X.env y = pure y := by intro _; rfl) : PS X (.For tg (.Name x p1) body [] pos) (tM Ps K F (wForL i vs G S)) :=
  ps_imp (ps_for (tb := fun D σ H => ∃ F' : Frm, F'.row = F.row ∧ tM Ps K F' S D σ H) hp hc (pi_list hv) hg ⟨fun pins s σ H D I ⟨F', hr, h⟩ => (hb F' hr).run pins s σ H D I h⟩ hs) fun D σ H ⟨ρ, M, Φ, k, r, ⟨ds, hm, hall, hL⟩, q⟩ => by
    obtain ⟨h1, ⟨xs, h2, h3⟩, h4⟩ := r.ent _ hm
    refine ⟨_, h1, adr σ i, rfl, ⟨xs, SqL.of h2⟩, ?_⟩
    generalize ha : adr σ i = a at *
    have rg : RelM Ps K (F.guard i a ds) H σ ρ (guardM M i) [] := by
      have := r.guard hm hall
      rw [ha] at this
      exact this
    refine ⟨fun j m σ H2 => m = ds.length - j ∧ j ≤ ds.length ∧ Ok Ps H2 ∧ ∃ ρ M, RelM Ps K (F.guard i a ds) H2 σ ρ M [] ∧ forML S i vs G (ds.drop j) ρ M (fun o => match o with
      | .nx ρ' M' => Φ (.nx ρ' (unguardM M' i ds))
      | .rt _ _ => False), ⟨ds.length, rfl, Nat.zero_le _, k, ρ, guardM M i, rg, hL⟩, ?_⟩
    rintro j m σ2 H2 ⟨rfl, hj, k2, ρ2, M2, r2, f2⟩
    have hpr : (i, MEnt.prot) ∈ M2 := by
      cases hd : ds.drop j with
      | nil => rw [hd] at f2; exact f2.1
      | cons d r => rw [hd] at f2; exact f2.1
    have hlist : ∃ ys, H2 a = some (.lst ys) ∧ RpA H2 ys ds := by
      obtain ⟨_, ds', g2, ⟨ys, g3, g4⟩, _⟩ := r2.ent _ hpr
      have g2 : (if i = i then some (a, ds) else F.prot i) = some (adr σ2 i, ds') := g2
      rw [if_pos rfl] at g2
      cases g2
      exact ⟨ys, g3, g4⟩
    obtain ⟨ys, y1, y2⟩ := hlist
    by_cases hlt : j < ds.length
    · rw [List.drop_eq_getElem_cons hlt] at f2
      obtain ⟨_, hvs, ρ3, hG, hS⟩ := f2
      obtain ⟨v, hv1, hv2⟩ := y2.get (List.getElem?_eq_getElem hlt)
      refine .inr ⟨⟨ys, v, SqL.of y1, hv1⟩, fun σ' H' => j + 1 ≤ ds.length ∧ Ok Ps H' ∧ ∃ ρ M, RelM Ps K (F.guard i a ds) H' σ' ρ M [] ∧ forML S i vs G (ds.drop (j + 1)) ρ M (fun o => match o with
        | .nx ρ' M' => Φ (.nx ρ' (unguardM M' i ds))
        | .rt _ _ => False), fun σ' H' n => ⟨ds.length - (j + 1), by omega, rfl, n.1, n.2⟩, fun x H' ⟨eH, hx⟩ => ?_⟩
      subst eH
      have ex := hx ys (SqL.of y1)
      rw [hv1] at ex
      cases ex
      have r3 : RelM Ps K (F.guard i a ds) H' σ2 ρ2 M2 [(v, ds[j])] := ⟨r2.sm, r2.imm, r2.ent, r2.inj, r2.rel, fun t ht => by
        rw [List.mem_singleton.mp ht]
        exact (rt_del r2.mut hv2).up⟩
      refine r3.goal og hG hvs fun σ4 r4 _ _ => ⟨F.guard i a ds, rfl, ρ3, M2, _, k2, r4, hS, fun o φ => ?_⟩
      cases o with
      | nx ρ' M' => exact fun σ' H5 k5 r5 => ⟨hlt, k5, ρ', M', r5, φ⟩
      | rt d M' => exact φ.elim
    · have hj' : j = ds.length := by omega
      subst hj'
      rw [List.drop_length] at f2
      exact .inl ⟨⟨ys, SqL.of y1, by rw [y2.length]; exact Nat.le_refl _⟩, q _ f2.2 _ _ k2 (r2.unguard hpr hF)⟩
end
/-- a def with lists and dicts of its own, by data -/
theorem fn_dataM {P : Program} {w : World} {K : PySem.W.Frag} {mg : Str → Option Value} {base : Heap} {x : Str} {st : Stmt} {f : Addr} {fd : FuncData} {c : Addr} {dV : Value} (N : List Str) {ps : List Str} {k : Nat} {Ps : List Addr} {FF : List PyData → Option PyData} (S : SM)
    (hF : ∀ ds d, FF ds = some d → ds.length = ps.length ∧ S (ds.map some ++ List.replicate (N.length - ds.length) none) [] fun o => ∃ M, o = .rt d M)
    (Fn : Fd K x st f fd c dV) (Sc : FnScope N ps (defScope st))
    (hbody : ∀ (A : Around) (outer : List Env) (s : Shared) (H : Hp) (E : XK), Room k (A.deeper (envOfC x (defScope st) s.heap.objs.size f (.ref c))) →
      PSs (cxOf CX0 P w K mg base N x (defScope st) f (.ref c) A outer s H E).nox (defBody st) (tM Ps K ⟨H, H, fun _ => none, none, 0⟩ S)) :
    FnOk P w K mg base CX0 (k + 1) f fd ps (spD Ps FF) := by
  refine fd_ok Fn Sc (fun vs H Q E ⟨ds, d, _, r, e, _⟩ => by rw [r.length]; exact (hF _ _ e).1) fun A outer s H vs Q E hr ⟨ds, d, ok, r, e, q⟩ => ?_
  refine ⟨_, hbody A outer s H E hr, ?_⟩
  have e2 := (hF _ _ e).2
  have e3 : L2.start N vs = vs.map some ++ List.replicate (N.length - ds.length) none := by
    unfold L2.start
    rw [r.length]
  rw [e3]
  have hd : del H (ads (vs.map some ++ List.replicate (N.length - ds.length) none) []) = H := by
    funext b
    unfold del ads
    simp
  refine ⟨_, [], _, ok, ⟨fun _ _ _ e => e, fun _ _ _ e => e, fun p hp => by simp at hp, fun p hp => by simp at hp, by rw [hd]; exact Rel.start r _, fun t ht => by simp at ht⟩, e2, fun o ⟨M, eo⟩ => ?_⟩
  subst eo
  exact fun v σ' ρ' H' k' r' => q v H' r'.sm k' (r'.temp k' List.mem_cons_self)
end LL
set_option Elab.async false
set_option linter.all false
set_option maxRecDepth 100000
set_option maxHeartbeats 1000000
set_option autoImplicit false
/-! The owned readings run: what a body does as a function. -/
namespace LL
open PySem PySem.Spec PyProof.Rows L2
theorem ifs0 {c : Prop} [Decidable c] {α : Type} {x d : α} (h : (if c then some x else none) = some d) : c ∧ x = d := by
  by_cases k : c
  · rw [if_pos k] at h
    exact ⟨k, Option.some.inj h⟩
  · rw [if_neg k] at h
    cases h
theorem ifc0 {c : Prop} [Decidable c] {α : Type} {x : Option α} {d : α} (h : (if c then x else none) = some d) : c ∧ x = some d := by
  by_cases k : c
  · rw [if_pos k] at h
    exact ⟨k, h⟩
  · rw [if_neg k] at h
    cases h
abbrev XM := DEnv → MM → Option OutM
def Snd (x : XM) (S : SM) : Prop := ∀ ρ M o, x ρ M = some o → ∀ Φ : OutM → Prop, Φ o → S ρ M Φ
def getL (M : MM) (i : Nat) : Option (List PyData) := match M.find? (fun p => p.1 == i) with
  | some (_, .own (.list ds)) => some ds
  | _ => none
def getD (M : MM) (i : Nat) : Option KVs := match M.find? (fun p => p.1 == i) with
  | some (_, .own (.dict kvs)) => some kvs
  | _ => none
theorem getL_mem {M : MM} {i : Nat} {ds : List PyData} (h : getL M i = some ds) : (i, .own (.list ds)) ∈ M := by
  unfold getL at h
  split at h
  · rename_i j ds' hf
    cases h
    have h1 := List.mem_of_find?_eq_some hf
    have h2 := List.find?_some hf
    have : j = i := by simpa using h2
    rw [this] at h1
    exact h1
  · cases h
theorem getD_mem {M : MM} {i : Nat} {kvs : KVs} (h : getD M i = some kvs) : (i, .own (.dict kvs)) ∈ M := by
  unfold getD at h
  split at h
  · rename_i j ds' hf
    cases h
    have h1 := List.mem_of_find?_eq_some hf
    have h2 := List.find?_some hf
    have : j = i := by simpa using h2
    rw [this] at h1
    exact h1
  · cases h
def okMb (M : MM) (d : PyData) : Bool := notL d || ((M.all fun p => isRow p.2) && !rowish d)
theorem okMb_ok {M : MM} {d : PyData} (h : okMb M d = true) : okM M d := by
  unfold okMb at h
  rw [Bool.or_eq_true, Bool.and_eq_true, Bool.not_eq_true'] at h
  exact h
def noSlot (M : MM) (vs : List Nat) : Bool := M.all fun p => !vs.contains p.1
theorem noSlot_ok {M : MM} {vs : List Nat} (h : noSlot M vs = true) : ∀ p ∈ M, p.1 ∉ vs := fun p hp hv => by
  have := List.all_eq_true.mp h p hp
  simp [List.contains_iff_mem, hv] at this
def xSet (i : Nat) (E : DEnv → Option PyData) : XM := fun ρ M => (E (viewM ρ M)).bind fun d => if okMb M d = true ∧ noSlot M [i] = true then some (.nx (ρ.set i (some d)) M) else none
theorem snd_set {i : Nat} {E : DEnv → Option PyData} : Snd (xSet i E) (wSet i (wP E)) := fun ρ M o h Φ φ => by
  obtain ⟨d, e1, h⟩ := Option.bind_eq_some_iff.mp h
  obtain ⟨⟨h1, h2⟩, rfl⟩ := ifs0 h
  exact ⟨d, e1, okMb_ok h1, fun p hp z => noSlot_ok h2 p hp (by simp [z]), φ⟩
def xThen (x y : XM) : XM := fun ρ M => (x ρ M).bind fun o => match o with
  | .nx ρ' M' => y ρ' M'
  | .rt d M' => some (.rt d M')
theorem snd_then {x y : XM} {S T : SM} (hx : Snd x S) (hy : Snd y T) : Snd (xThen x y) (wThen S T) := fun ρ M o h Φ φ => by
  obtain ⟨o1, e1, h⟩ := Option.bind_eq_some_iff.mp h
  refine hx ρ M o1 e1 _ ?_
  cases o1 with
  | nx ρ' M' => exact hy ρ' M' o h Φ φ
  | rt d M' =>
    cases h
    exact φ
def xIf (C : DEnv → Option Bool) (x y : XM) : XM := fun ρ M => (C (viewM ρ M)).bind fun b => if b = true then x ρ M else y ρ M
theorem snd_if {C : DEnv → Option Bool} {x y : XM} {S T : SM} (hx : Snd x S) (hy : Snd y T) : Snd (xIf C x y) (wIf (wT C) S T) := fun ρ M o h Φ φ => by
  obtain ⟨b, e1, h⟩ := Option.bind_eq_some_iff.mp h
  refine ⟨b, e1, ?_⟩
  cases b with
  | true => exact hx ρ M o (by simpa using h) Φ φ
  | false => exact hy ρ M o (by simpa using h) Φ φ
def xNx : XM := fun ρ M => some (.nx ρ M)
theorem snd_nx : Snd xNx wNx := fun ρ M o h Φ φ => by
  cases h
  exact φ
def xNo : XM := fun _ _ => none
theorem snd_no : Snd xNo wNo := fun ρ M o h Φ φ => by cases h
def xRt (E : DEnv → Option PyData) : XM := fun ρ M => (E (viewM ρ M)).bind fun d => if okMb M d = true then some (.rt d M) else none
theorem snd_rt {E : DEnv → Option PyData} : Snd (xRt E) (wRt (wP E)) := fun ρ M o h Φ φ => by
  obtain ⟨d, e1, h⟩ := Option.bind_eq_some_iff.mp h
  obtain ⟨h1, rfl⟩ := ifs0 h
  exact ⟨d, e1, okMb_ok h1, φ⟩
def xAsg (E : DEnv → Option PyData) (vs : List Nat) (G : PyData → DEnv → Option DEnv) : XM := fun ρ M => (E (viewM ρ M)).bind fun d => (G d ρ).bind fun ρ' => if okMb M d = true ∧ noSlot M vs = true then some (.nx ρ' M) else none
theorem snd_asg {E : DEnv → Option PyData} {vs : List Nat} {G : PyData → DEnv → Option DEnv} : Snd (xAsg E vs G) (wAsg (wP E) vs G) := fun ρ M o h Φ φ => by
  obtain ⟨d, e1, h⟩ := Option.bind_eq_some_iff.mp h
  obtain ⟨ρ', e2, h⟩ := Option.bind_eq_some_iff.mp h
  obtain ⟨⟨h1, h2⟩, rfl⟩ := ifs0 h
  exact ⟨d, e1, okMb_ok h1, noSlot_ok h2, ρ', e2, φ⟩
def xForD (x : XM) (vs : List Nat) (G : PyData → DEnv → Option DEnv) : List PyData → XM
  | [] => fun ρ M => some (.nx ρ M)
  | d :: r => fun ρ M => if noSlot M vs = true then (G d ρ).bind fun ρ1 => (x ρ1 M).bind fun o => match o with
    | .nx ρ' M' => xForD x vs G r ρ' M'
    | .rt a M' => some (.rt a M') else none
def xFor (I : DEnv → Option (List PyData)) (vs : List Nat) (G : PyData → DEnv → Option DEnv) (x : XM) : XM := fun ρ M => (I (viewM ρ M)).bind fun ds => xForD x vs G ds ρ M
theorem snd_forD {vs : List Nat} {G : PyData → DEnv → Option DEnv} {x : XM} {S : SM} (hx : Snd x S) : ∀ ds, Snd (xForD x vs G ds) (forM S vs G ds)
  | [], ρ, M, o, h, Φ, φ => by
    cases h
    exact φ
  | d :: r, ρ, M, o, h, Φ, φ => by
    obtain ⟨h1, h⟩ := ifc0 h
    obtain ⟨ρ1, e1, h⟩ := Option.bind_eq_some_iff.mp h
    obtain ⟨o1, e2, h⟩ := Option.bind_eq_some_iff.mp h
    refine ⟨noSlot_ok h1, ρ1, e1, hx ρ1 M o1 e2 _ ?_⟩
    cases o1 with
    | nx ρ' M' => exact snd_forD hx r ρ' M' o h Φ φ
    | rt a M' =>
      cases h
      exact φ
theorem snd_for {I : DEnv → Option (List PyData)} {vs : List Nat} {G : PyData → DEnv → Option DEnv} {x : XM} {S : SM} (hx : Snd x S) : Snd (xFor I vs G x) (wFor I vs G S) := fun ρ M o h Φ φ => by
  obtain ⟨ds, e1, h⟩ := Option.bind_eq_some_iff.mp h
  exact ⟨ds, e1, snd_forD hx ds ρ M o h Φ φ⟩
def xNewL (i : Nat) : XM := fun ρ M => if i < ρ.length then some (.nx (ρ.set i none) ((i, .own (.list [])) :: mdrop M i)) else none
theorem snd_newL {i : Nat} : Snd (xNewL i) (wNewL i) := fun ρ M o h Φ φ => by
  obtain ⟨h1, rfl⟩ := ifs0 h
  exact ⟨h1, φ⟩
def xNewD (i : Nat) : XM := fun ρ M => if i < ρ.length then some (.nx (ρ.set i none) ((i, .own (.dict [])) :: mdrop M i)) else none
theorem snd_newD {i : Nat} : Snd (xNewD i) (wNewD i) := fun ρ M o h Φ φ => by
  obtain ⟨h1, rfl⟩ := ifs0 h
  exact ⟨h1, φ⟩
def xApp (i : Nat) (E : DEnv → Option PyData) : XM := fun ρ M => (getL M i).bind fun ds => (E (viewM ρ M)).bind fun d => if notL d = true ∧ ds.length < sizeLine then some (.nx ρ (setM M i (.list (ds ++ [d])))) else none
theorem snd_app {i : Nat} {E : DEnv → Option PyData} : Snd (xApp i E) (wApp i E) := fun ρ M o h Φ φ => by
  obtain ⟨ds, e1, h⟩ := Option.bind_eq_some_iff.mp h
  obtain ⟨d, e2, h⟩ := Option.bind_eq_some_iff.mp h
  obtain ⟨⟨h1, h2⟩, rfl⟩ := ifs0 h
  exact ⟨ds, d, getL_mem e1, e2, h1, h2, φ⟩
def xCat (i : Nat) (E : DEnv → Option PyData) : XM := fun ρ M => (getL M i).bind fun ds => (E (viewM ρ M)).bind fun d => match d with
  | .list ds2 => if ds.length + ds2.length ≤ sizeLine ∧ i < ρ.length then some (.nx (ρ.set i none) ((i, .own (.list (ds ++ ds2))) :: mdrop M i)) else none
  | _ => none
theorem snd_cat {i : Nat} {E : DEnv → Option PyData} : Snd (xCat i E) (wCat i E) := fun ρ M o h Φ φ => by
  obtain ⟨ds, e1, h⟩ := Option.bind_eq_some_iff.mp h
  obtain ⟨d, e2, h⟩ := Option.bind_eq_some_iff.mp h
  cases d with
  | list ds2 =>
    obtain ⟨⟨h1, h2⟩, rfl⟩ := ifs0 h
    exact ⟨ds, ds2, getL_mem e1, e2, h1, h2, φ⟩
  | _ => cases h
def xRetL (i : Nat) : XM := fun ρ M => (getL M i).bind fun ds => some (.rt (.list ds) (mdrop M i))
theorem snd_retL {i : Nat} : Snd (xRetL i) (wRetL i) := fun ρ M o h Φ φ => by
  obtain ⟨ds, e1, h⟩ := Option.bind_eq_some_iff.mp h
  cases h
  exact ⟨ds, getL_mem e1, φ⟩
def hasProt (M : MM) (i : Nat) : Bool := M.any fun p => p.1 == i && (match p.2 with | .prot => true | _ => false)
theorem hasProt_mem {M : MM} {i : Nat} (h : hasProt M i = true) : (i, .prot) ∈ M := by
  obtain ⟨p, hp, h⟩ := List.any_eq_true.mp h
  obtain ⟨j, me⟩ := p
  rw [Bool.and_eq_true] at h
  have e : j = i := by simpa using h.1
  subst e
  cases me with
  | prot => exact hp
  | _ => exact absurd h.2 (by simp)
def xForLD (x : XM) (i : Nat) (vs : List Nat) (G : PyData → DEnv → Option DEnv) : List PyData → XM
  | [] => fun ρ M => if hasProt M i = true then some (.nx ρ M) else none
  | d :: r => fun ρ M => if hasProt M i = true ∧ noSlot M vs = true then (G d ρ).bind fun ρ1 => (x ρ1 M).bind fun o => match o with
    | .nx ρ' M' => xForLD x i vs G r ρ' M'
    | .rt a M' => none else none
def xForL (i : Nat) (vs : List Nat) (G : PyData → DEnv → Option DEnv) (x : XM) : XM := fun ρ M => (getL M i).bind fun ds => if (M.all fun p => match p.2 with | .prot => false | _ => true) = true then (xForLD x i vs G ds ρ (guardM M i)).bind fun o => match o with
  | .nx ρ' M' => some (.nx ρ' (unguardM M' i ds))
  | .rt _ _ => none else none
theorem snd_forLD {i : Nat} {vs : List Nat} {G : PyData → DEnv → Option DEnv} {x : XM} {S : SM} (hx : Snd x S) : ∀ ds ρ M ρ' M', xForLD x i vs G ds ρ M = some (.nx ρ' M') → ∀ Φ : OutM → Prop, Φ (.nx ρ' M') → forML S i vs G ds ρ M Φ
  | [], ρ, M, ρ', M', h, Φ, φ => by
    obtain ⟨h1, h⟩ := ifs0 h
    cases h
    exact ⟨hasProt_mem h1, φ⟩
  | d :: r, ρ, M, ρ', M', h, Φ, φ => by
    obtain ⟨⟨h0, h1⟩, h⟩ := ifc0 h
    obtain ⟨ρ1, e1, h⟩ := Option.bind_eq_some_iff.mp h
    obtain ⟨o1, e2, h⟩ := Option.bind_eq_some_iff.mp h
    refine ⟨hasProt_mem h0, noSlot_ok h1, ρ1, e1, hx ρ1 M o1 e2 _ ?_⟩
    cases o1 with
    | nx ρ2 M2 => exact snd_forLD hx r ρ2 M2 ρ' M' h Φ φ
    | rt a M' => cases h
theorem snd_forL {i : Nat} {vs : List Nat} {G : PyData → DEnv → Option DEnv} {x : XM} {S : SM} (hx : Snd x S) : Snd (xForL i vs G x) (wForL i vs G S) := fun ρ M o h Φ φ => by
  obtain ⟨ds, e1, h⟩ := Option.bind_eq_some_iff.mp h
  obtain ⟨h1, h⟩ := ifc0 h
  obtain ⟨o1, e2, h⟩ := Option.bind_eq_some_iff.mp h
  cases o1 with
  | nx ρ' M' =>
    cases h
    exact ⟨ds, getL_mem e1, h1, snd_forLD hx ds ρ _ ρ' M' e2 _ φ⟩
  | rt _ _ => cases h
def xNew1 (i : Nat) (E : DEnv → Option PyData) : XM := fun ρ M => (E (viewM ρ M)).bind fun d => match d with
  | .list ds => if i < ρ.length then some (.nx (ρ.set i none) ((i, .own (.list ds)) :: mdrop M i)) else none
  | _ => none
theorem snd_new1 {i : Nat} {E : DEnv → Option PyData} : Snd (xNew1 i E) (wNew1 i E) := fun ρ M o h Φ φ => by
  obtain ⟨d, e1, h⟩ := Option.bind_eq_some_iff.mp h
  cases d with
  | list ds =>
    obtain ⟨h1, rfl⟩ := ifs0 h
    exact ⟨ds, e1, h1, φ⟩
  | _ => cases h
def xIfLen (i : Nat) (n : Int) (x y : XM) : XM := fun ρ M => (getD M i).bind fun kvs => if n < (kvs.length : Int) then x ρ M else y ρ M
theorem snd_ifLen {i : Nat} {n : Int} {x y : XM} {S T : SM} (hx : Snd x S) (hy : Snd y T) : Snd (xIfLen i n x y) (wIf (wLen i n) S T) := fun ρ M o h Φ φ => by
  obtain ⟨kvs, e1, h⟩ := Option.bind_eq_some_iff.mp h
  refine ⟨kvs, getD_mem e1, ?_⟩
  by_cases hn : n < (kvs.length : Int)
  · rw [if_pos hn] at h
    rw [if_pos (by simpa using hn)]
    exact hx ρ M o h Φ φ
  · rw [if_neg hn] at h
    rw [if_neg (by simpa using hn)]
    exact hy ρ M o h Φ φ
def xDset (i : Nat) (Ek Ev : DEnv → Option PyData) : XM := fun ρ M => (getD M i).bind fun kvs => (Ev (viewM ρ M)).bind fun vd => (Ek (viewM ρ M)).bind fun kd =>
  if isKd kd = true ∧ (nk kd).depth ≤ 8 ∧ notL vd = true ∧ kvs.length < sizeLine then some (.nx ρ (setM M i (.dict (dputD kvs kd vd)))) else none
theorem snd_dset {i : Nat} {Ek Ev : DEnv → Option PyData} : Snd (xDset i Ek Ev) (wDset i Ek Ev) := fun ρ M o h Φ φ => by
  obtain ⟨kvs, e1, h⟩ := Option.bind_eq_some_iff.mp h
  obtain ⟨vd, e2, h⟩ := Option.bind_eq_some_iff.mp h
  obtain ⟨kd, e3, h⟩ := Option.bind_eq_some_iff.mp h
  obtain ⟨⟨h1, h2, h3, h4⟩, rfl⟩ := ifs0 h
  exact ⟨kvs, kd, vd, getD_mem e1, e2, e3, h1, h2, h3, h4, φ⟩
def xAppD (i j : Nat) : XM := fun ρ M => (getL M i).bind fun ds => (getD M j).bind fun kvs => if i ≠ j ∧ ds.length < sizeLine then some (.nx ρ (setM (mdrop M j) i (.list (ds ++ [.dict kvs])))) else none
theorem snd_appD {i j : Nat} : Snd (xAppD i j) (wAppD i j) := fun ρ M o h Φ φ => by
  obtain ⟨ds, e1, h⟩ := Option.bind_eq_some_iff.mp h
  obtain ⟨kvs, e2, h⟩ := Option.bind_eq_some_iff.mp h
  obtain ⟨⟨h1, h2⟩, rfl⟩ := ifs0 h
  exact ⟨h1, ds, kvs, getL_mem e1, getD_mem e2, h2, φ⟩
def xFrz (i j : Nat) : XM := fun ρ M => (getD M j).bind fun kvs => if ((mdrop M j).all fun p => p.1 != i) = true then some (.nx (ρ.set i (some (.dict kvs))) (mdrop M j)) else none
theorem snd_frz {i j : Nat} : Snd (xFrz i j) (wFrz i j) := fun ρ M o h Φ φ => by
  obtain ⟨kvs, e2, h⟩ := Option.bind_eq_some_iff.mp h
  obtain ⟨h1, rfl⟩ := ifs0 h
  exact ⟨kvs, getD_mem e2, fun p hp => by simpa using List.all_eq_true.mp h1 p hp, φ⟩
/-- the def that such a body makes -/
def fnX (n N : Nat) (x : XM) : List PyData → Option PyData := fun ds => if ds.length = n then match x (ds.map some ++ List.replicate (N - ds.length) none) [] with
  | some (.rt d _) => some d
  | _ => none else none
theorem fnX_ok {n N : Nat} {x : XM} {S : SM} (h : Snd x S) : ∀ ds d, fnX n N x ds = some d → ds.length = n ∧ S (ds.map some ++ List.replicate (N - ds.length) none) [] fun o => ∃ M, o = .rt d M := fun ds d e => by
  obtain ⟨h1, e⟩ := ifc0 e
  refine ⟨h1, ?_⟩
  split at e
  · rename_i d' M' e2
    cases e
    exact h _ _ _ e2 _ ⟨M', rfl⟩
  · cases e
end LL
set_option Elab.async false
set_option linter.all false
set_option maxRecDepth 100000
set_option maxHeartbeats 1000000
set_option autoImplicit false
/-! keep: its promise, its call. -/
namespace LL
open PySem PySem.Spec PyProof.Rows L2
variable [Wd]
def spKeep (Ps : List Addr) : Sp := fun vs H Q _ => ∃ a kvs pv lv pair losses kvs', vs = [.ref a, pv, lv] ∧ Ok Ps H ∧ Dd H a kvs ∧ Rt H pv pair ∧ Rt H lv losses ∧ keepD kvs pair losses = some kvs' ∧
  ∀ H', Ok Ps H' → Dd H' a kvs' → (∀ b o, b ∉ Ps → b ≠ a → H b = some o → H' b = some o) → Q .non H'
theorem keepD_some {kvs kvs' : KVs} {pair losses : PyData} (h : keepD kvs pair losses = some kvs') : ∃ new, losses = .tuple new ∧ isKd pair = true ∧ (nk pair).depth ≤ 8 ∧ kvs.length < sizeLine ∧
    ((dgetD kvs pair = none ∧ kvs' = dputD kvs pair losses) ∨ ∃ old, dgetD kvs pair = some (.tuple old) ∧ kvs' = if new.length < old.length then dputD kvs pair losses else kvs) := by
  obtain ⟨⟨h1, h2, h3⟩, h⟩ := ifc0 h
  cases losses with
  | tuple new =>
    refine ⟨new, rfl, h1, h2, by rw [sizeLine_eq]; exact h3, ?_⟩
    simp only at h
    split at h
    · rename_i e
      cases h
      exact .inl ⟨e, rfl⟩
    · rename_i old e
      refine .inr ⟨old, e, ?_⟩
      split at h <;> rename_i hl <;> cases h
      · rw [if_pos hl]
      · rw [if_neg hl]
    · cases h
  | _ => cases h
section
variable {P : Program} {w : World} {K : PySem.W.Frag} {mg : Str → Option Value} {base : Heap} {Ps : List Addr}
theorem sc_keep : FnScope N_keep ["later", "pair", "losses"] (defScope st_keep) := ⟨rfl, rfl, rfl, by decide +kernel, rfl, by decide +kernel, by decide +kernel⟩
theorem ok_keep (G : Glo mg) (hw : w = Wd.w) (D : DefAt K mg "keep" st_keep) : FnOk P w K mg base CX0 1 D.f D.fd ["later", "pair", "losses"] (spKeep Ps) := by
  refine fd_ok (N := N_keep) (k := 0) D.ok sc_keep (fun vs H Q E ⟨a, kvs, xp, xl, pair, losses, kvs', e, _⟩ => by rw [e]; rfl) fun A outer s H vs Q E hr ⟨a, kvs, xp, xl, pair, losses, kvs', e, k, hD, rp, rl, hk, q⟩ => ?_
  subst e
  conv => arg 1; ext; arg 1; arg 2; whnf
  refine ⟨_, pss_one (ps_if (PW.pt (pw_or (pt_cmpR (op_niD hw (u9 hr)) (pv 1) (pv 0) rfl) (pw_or1 (pt_cmpR op_lt (pe_callB call_len_seq rfl G.len PySem.boot_len (pa_cons (pv 2) pa_nil)) (pe_callB call_len_seq rfl G.len PySem.boot_len (pa_cons (pe_ddget hw (u9 hr) (pv 0) (pv 1)) pa_nil)) rfl))))
    (pss_one (ps_asg (pv 2) (pg_sub (pv 0) (pv 1) (set_dd hw (u9 hr))))) pss_nil), ?_⟩
  obtain ⟨new, rfl, kd, dep, hz, hc⟩ := keepD_some hk
  have put : kvs' = dputD kvs pair (.tuple new) → (tAsg (tVar 2) (gSub (tVar 0) (tVar 1) rSetD)) { nx := fun _ H' => Q .non H', rt := Q } (L2.start N_keep [.ref a, xp, xl]) H := fun e => by
    subst e
    refine ⟨xl, rfl, .ref a, rfl, xp, rfl, a, kvs, pair, .tuple new, rfl, hD, rp, kd, dep, rl, hz, fun H' hd hne => ?_⟩
    refine q H' ?_ hd fun b o _ hb e => by rw [hne b hb]; exact e
    obtain ⟨xs, z1, _⟩ := hD
    obtain ⟨ys, y1, _⟩ := id hd
    rw [upd_of y1 hne]
    exact k.put z1 nt_do nc_do
  refine ⟨xp, rfl, .ref a, rfl, a, kvs, pair, rfl, hD, rp, kd, dep, _, rfl, ?_⟩
  rcases hc with ⟨h1, h2⟩ | ⟨old, h1, h2⟩
  · rw [h1]
    exact iteT (iteT (put h2))
  · rw [h1]
    refine iteF ?_
    cases rl with
    | tup e1 r1 =>
      refine ⟨_, rfl, _, _, rfl, .inr (SqT.of e1), .ref a, rfl, xp, rfl, a, kvs, pair, .tuple old, rfl, hD, rp, kd, dep, h1, fun v rv => ?_⟩
      cases rv with
      | tup e2 r2 =>
        refine ⟨_, _, rfl, .inr (SqT.of e2), _, _, rfl, rfl, _, rfl, ?_⟩
        rw [r1.length, r2.length]
        by_cases hlt : new.length < old.length
        · rw [if_pos hlt] at h2
          rw [decide_eq_true (by omega)]
          exact iteT (put h2)
        · rw [if_neg hlt] at h2
          rw [decide_eq_false (by omega)]
          subst h2
          exact iteF (q H k hD fun _ _ _ _ e => e)
end
/-- keep(x, pair, losses) -/
def wKeep (i : Nat) (Ep El : DEnv → Option PyData) : SM := fun ρ M Φ => ∃ kvs pair losses kvs', (i, .own (.dict kvs)) ∈ M ∧ Ep (viewM ρ M) = some pair ∧ El (viewM ρ M) = some losses ∧ notL losses = true ∧ keepD kvs pair losses = some kvs' ∧ Φ (.nx ρ (setM M i (.dict kvs')))
def xKeep (i : Nat) (Ep El : DEnv → Option PyData) : XM := fun ρ M => (getD M i).bind fun kvs => (Ep (viewM ρ M)).bind fun pair => (El (viewM ρ M)).bind fun losses => if notL losses = true then (keepD kvs pair losses).bind fun kvs' => some (.nx ρ (setM M i (.dict kvs'))) else none
omit [Wd] in
theorem snd_keep {i : Nat} {Ep El : DEnv → Option PyData} : Snd (xKeep i Ep El) (wKeep i Ep El) := fun ρ M o h Φ φ => by
  obtain ⟨kvs, e1, h⟩ := Option.bind_eq_some_iff.mp h
  obtain ⟨pair, e2, h⟩ := Option.bind_eq_some_iff.mp h
  obtain ⟨losses, e3, h⟩ := Option.bind_eq_some_iff.mp h
  obtain ⟨h1, h⟩ := ifc0 h
  obtain ⟨kvs', e4, h⟩ := Option.bind_eq_some_iff.mp h
  cases h
  exact ⟨kvs, pair, losses, kvs', getD_mem e1, e2, e3, h1, e4, φ⟩
section
variable {Ps : List Addr} {K : PySem.W.Frag} {F : Frm} {X : Cx} {pos : Pos}
theorem msm_keep {i : Nat} {x : Str} {p p1 p2 : Pos} {pe le : Expr} {Ep El : DEnv → Option PyData} {k : Nat} {f : Addr} {fd : FuncData} {ps : List Str} (hr : F.row = none)
    (Fn : FnOk X.prog X.w X.K X.mg X.base CX0 k f fd ps (spKeep Ps)) (hrm : Room k X.A) (hg : Gl X "keep") (hm : X.mg "keep" = some (.ref f)) (hk : PySem.W.keepIn X.K (.ref f) = true) (hb : Binds X.K fd ps [])
    (hv : PE X (.Name x p1) (tVar i)) (hp : PE X pe (tD Ps Ep)) (hl : PE X le (tD Ps El))
    (he : starEach [.Name x p1, pe, le] X.env = (false, eval (.Name x p1) X.env) :: starEach [pe, le] X.env := by rfl) (he2 : starEach [pe, le] X.env = (false, eval pe X.env) :: starEach [le] X.env := by rfl) (he3 : starEach [le] X.env = (false, eval le X.env) :: starEach [] X.env := by rfl)
    (hpl : (backTo p2 (starEach [pe, le] X.env)).any (·.1) = false := by rfl) (hsw : swapsWith (.Call (.Name "keep" p) [.Name x p1, pe, le] [] p2) none pos.line X.env = pure false := by rfl) :
    PS X (.Expr (.Call (.Name "keep" p) [.Name x p1, pe, le] [] p2) pos) (tM Ps K F (wKeep i Ep El)) :=
  ps_imp (ps_expr (pe_call Fn hrm hg hm hk hb .nil (pass0) (pa_cons hv (pa_cons hp (pa_cons hl pa_nil he3) he2) he) (by decide) he hpl) hsw) fun D σ H ⟨ρ, M, Φ, k, r, ⟨kvs, pair, losses, kvs', hmm, e1, e2, h1, h2, φ⟩, q⟩ => by
    obtain ⟨g1, g2, g3⟩ := r.ent _ hmm
    refine ⟨_, g1, viewM ρ M, pair, k, r.view k, e1, fun u H1 s1 k1 r1 => ⟨viewM ρ M, losses, k1, (r.view k).mono k s1, e2, fun v H2 s2 k2 r2 => ?_⟩⟩
    have rr := (r.step k s1).step k1 s2
    obtain ⟨_, d2, _⟩ := rr.ent _ hmm
    obtain ⟨_, _, hkd, _⟩ := keepD_some h2
    refine ⟨adr σ i, kvs, u, v, pair, losses, kvs', rfl, k2, d2, Rp.mono k1 s2 _ _ (r1.im (kd_notL hkd)), r2.im h1, h2, fun H' k' hd hne => ?_⟩
    exact q _ φ _ _ k' (rr.write' hr k2 hmm hne hd)
end
end LL
set_option Elab.async false
set_option linter.all false
set_option maxRecDepth 100000
set_option maxHeartbeats 2000000
set_option autoImplicit false
/-! _law_taken: some number below what is asked. -/
namespace LL
open PySem PySem.Spec PyProof.Rows L2
variable [Wd]
section
variable {P : Program} {w : World} {K : PySem.W.Frag} {mg : Str → Option Value} {base : Heap} {Ps : List Addr}
def spTaken (K : PySem.W.Frag) (Ps : List Addr) : Sp := fun vs H Q _ => ∃ r scr k, vs = [.ref r, .int k] ∧ Ok Ps H ∧ RowOk K H r scr ∧ 1 ≤ k ∧ k < 1073741824 ∧ ∀ i H', 0 ≤ i → i < k → Ok Ps H' → RowOk K H' r scr → Sm ([r] ++ Ps) H H' → Q (.int i) H'
theorem sc_law_taken : FnScope N_law_taken ["_law_row", "_law_many"] (defScope st_law_taken) := ⟨rfl, rfl, rfl, by decide +kernel, rfl, by decide +kernel, by decide +kernel⟩
theorem ok_law_taken (G : Glo mg) (D : DefAt K mg "_law_taken" st_law_taken) : FnOk P w K mg base CX0 1 D.f D.fd ["_law_row", "_law_many"] (spTaken K Ps) := by
  refine fd_ok (N := N_law_taken) (k := 0) D.ok sc_law_taken (fun vs H Q E ⟨r, scr, k, e, _⟩ => by rw [e]; rfl) fun A outer s H vs Q E hr ⟨r, scr, k, e, ok, hrow, hk1, hk2, q⟩ => ?_
  subst e
  conv => arg 1; ext; arg 1; arg 2; whnf
  refine ⟨_, pss_cons (ps_if (pt_cmpR op_gt (pe_ix ix_list (pv 0) pe_int (fun _ _ => rfl)) pe_int rfl)
      (pss_cons (ps_set (i := 2) sc_law_taken.nd rfl (Or.inl rfl) (pe_op op_mod (pe_callTy call_int1 rfl G.int (by decide +kernel) (pa_cons (pe_ix ix_list (pv 0) pe_int (fun _ _ => rfl)) pa_nil)) (pv 1)))
      (pss_cons (ps_asg (pe_op op_fdiv (pe_ix ix_list (pv 0) pe_int (fun _ _ => rfl)) (pv 1)) (pg_sub (pv 0) pe_int set_list))
      (pss_one (ps_ret (pv 2))))) pss_nil)
    (pss_cons (ps_asg (pe_op op_add (pe_ix ix_list (pv 0) pe_int (fun _ _ => rfl)) pe_int) (pg_sub (pv 0) pe_int set_list))
    (pss_cons (ps_if (pt_cmpR op_gt (pe_ix ix_list (pv 0) pe_int (fun _ _ => rfl)) (pe_callB call_len_seq rfl G.len PySem.boot_len (pa_cons (pe_ix ix_list (pv 0) pe_int (fun _ _ => rfl)) pa_nil)) rfl)
      (pss_cons (ps_asg (pe_op op_mod (pe_callTy call_int1 rfl G.int (by decide +kernel) (pa_cons (pe_op op_add (pe_op op_mul (pe_ix ix_list (pv 0) pe_int (fun _ _ => rfl)) pe_int) pe_int) pa_nil)) pe_int) (pg_sub (pv 0) pe_int set_list))
      (pss_one (ps_ret (pe_op op_mod (pe_callTy call_int1 rfl G.int (by decide +kernel) (pa_cons (pe_op op_fdiv (pe_ix ix_list (pv 0) pe_int (fun _ _ => rfl)) pe_int) pa_nil)) (pv 1))))) pss_nil)
    (pss_cons (ps_set (i := 3) sc_law_taken.nd rfl (Or.inl rfl) (pe_ix ix_list (pe_ix ix_list (pv 0) pe_int (fun _ _ => rfl)) (pe_op op_sub (pe_ix ix_list (pv 0) pe_int (fun _ _ => rfl)) pe_int) (fun _ _ => rfl)))
    (pss_cons (ps_asg (pe_op op_mod (pe_callTy call_int1 rfl G.int (by decide +kernel) (pa_cons (pe_op op_add (pe_op op_add (pe_op op_mul (pe_ix ix_list (pv 0) pe_int (fun _ _ => rfl)) pe_int) (pv 3)) pe_int) pa_nil)) pe_int) (pg_sub (pv 0) pe_int set_list))
    (pss_cons (ps_if (pt_cmpR op_ge (pv 3) (pe_op op_pow pe_int pe_int) rfl) (pss_one (ps_asg (pe_op op_fdiv (pv 3) (pv 1)) (pg_sub (pv 0) pe_int set_list))) pss_nil)
    (pss_one (ps_ret (pe_op op_mod (pe_callTy call_int1 rfl G.int (by decide +kernel) (pa_cons (pv 3) pa_nil)) (pv 1))))))))), ?_⟩
  obtain ⟨ns, c, st, qq, hl, hs, hne, hc, hst, hst2⟩ := hrow
  have fin : ∀ (i : Int) (c' st' q' : Int) (H' : Hp), 0 ≤ i → i < k → 0 ≤ c' → 0 ≤ st' → st' < 2147483647 → H' = upd H r (.lst [.ref scr, .int c', .int st', .int q']) → Q (.int i) H' := fun i c' st' q' H' h1 h2 h3 h4 h5 e => by
    subst e
    have sm : Sm ([r] ++ Ps) H (upd H r (.lst [.ref scr, .int c', .int st', .int q'])) := fun b o nb e => by
      have hb : b ≠ r := fun z => nb (by simp [z])
      rw [upd_ne hb]
      exact e
    refine q i _ h1 h2 (ok.put hl no_lst nc_lst) ⟨ns, c', st', q', upd_same, ?_, hne, h3, h4, h5⟩ sm
    exact hs.keep fun _ o e => by rw [upd_ne hne]; exact e
  have m0 : 0 < k := by omega
  refine ⟨.ref r, rfl, r, _, 3, _, rfl, rfl, SqL.of hl, rfl, _, _, rfl, rfl, _, rfl, ?_⟩
  by_cases hq : 0 < qq
  · rw [decide_eq_true hq]
    refine iteT ⟨.ref r, rfl, r, _, 3, _, rfl, rfl, SqL.of hl, rfl, .inl ⟨_, rfl, .int k, rfl, _, _, rfl, rfl, m0, ?_⟩⟩
    refine ⟨.ref r, rfl, r, _, 3, _, rfl, rfl, SqL.of hl, rfl, .int k, rfl, _, _, rfl, rfl, ⟨m0, hk2⟩, .ref r, rfl, r, _, 3, 3, rfl, rfl, hl, rfl, ?_⟩
    exact ⟨_, rfl, fin _ c st (qq / k) _ (Int.emod_nonneg _ (by omega)) (Int.emod_lt_of_pos _ m0) hc hst hst2 rfl⟩
  · rw [decide_eq_false hq]
    refine iteF ?_
    refine ⟨.ref r, rfl, r, _, 1, _, rfl, rfl, SqL.of hl, rfl, _, _, rfl, rfl, .ref r, rfl, r, _, 1, 1, rfl, rfl, hl, rfl, ?_⟩
    have hl1 : (upd H r (.lst [V.ref scr, .int (c + 1), .int st, .int qq])) r = some (.lst [V.ref scr, .int (c + 1), .int st, .int qq]) := upd_same
    have hs1 : SqL K (upd H r (.lst [V.ref scr, .int (c + 1), .int st, .int qq])) scr (ns.map V.int) := (hs.keep fun _ o e => by rw [upd_ne hne]; exact e).sq
    refine ⟨.ref r, rfl, r, _, 1, _, rfl, rfl, SqL.of hl1, rfl, .ref r, rfl, r, _, 0, _, rfl, rfl, SqL.of hl1, rfl, scr, _, rfl, .inl hs1, _, _, rfl, rfl, _, rfl, ?_⟩
    rw [List.length_map]
    by_cases hlen : (ns.length : Int) < c + 1
    · rw [decide_eq_true hlen]
      refine iteT ?_
      refine ⟨.ref r, rfl, r, _, 2, _, rfl, rfl, SqL.of hl1, rfl, _, _, rfl, rfl, .inl ⟨by omega, by omega⟩, _, _, rfl, rfl, .inl ⟨_, rfl, _, _, rfl, rfl, (show (0 : Int) < 2147483647 by decide), .ref r, rfl, r, _, 2, 2, rfl, rfl, hl1, rfl, ?_⟩⟩
      refine ⟨.ref r, rfl, r, _, 2, _, rfl, rfl, SqL.of upd_same, rfl, _, _, rfl, rfl, ⟨by decide, by decide⟩, .inl ⟨_, rfl, .int k, rfl, _, _, rfl, rfl, m0, ?_⟩⟩
      refine fin _ (c + 1) ((st * 48271 + 11) % 2147483647) qq _ (Int.emod_nonneg _ (by omega)) (Int.emod_lt_of_pos _ m0) (by omega) (Int.emod_nonneg _ (by decide)) (Int.emod_lt_of_pos _ (by decide)) ?_
      rw [upd_upd]
      rfl
    · rw [decide_eq_false hlen]
      refine iteF ?_
      have hcn : c.toNat < ns.length := by omega
      have hat : atI (ns.map V.int) (c + 1 - 1) = some (.int ns[c.toNat]) := by
        have e : c + 1 - 1 = ((c.toNat : Nat) : Int) := by omega
        rw [e]
        exact atI_nat (by rw [List.getElem?_map, List.getElem?_eq_getElem hcn]; rfl)
      generalize ns[c.toNat] = cell at hat
      refine ⟨.ref r, rfl, r, _, 0, _, rfl, rfl, SqL.of hl1, rfl, .ref r, rfl, r, _, 1, _, rfl, rfl, SqL.of hl1, rfl, _, _, rfl, rfl, scr, _, _, _, rfl, rfl, hs1, hat, ?_⟩
      refine ⟨.ref r, rfl, r, _, 2, _, rfl, rfl, SqL.of hl1, rfl, _, _, rfl, rfl, .inl ⟨by omega, by omega⟩, .int cell, rfl, _, _, rfl, rfl, _, _, rfl, rfl, .inl ⟨_, rfl, _, _, rfl, rfl, (show (0 : Int) < 2147483647 by decide), .ref r, rfl, r, _, 2, 2, rfl, rfl, hl1, rfl, ?_⟩⟩
      have s0 := Int.emod_nonneg (st * 48271 + cell + 11) (show (2147483647 : Int) ≠ 0 by decide)
      have s1 := Int.emod_lt_of_pos (st * 48271 + cell + 11) (show (0 : Int) < 2147483647 by decide)
      refine ⟨.int cell, rfl, _, _, rfl, rfl, ⟨by decide, by decide, by decide⟩, _, _, rfl, rfl, _, rfl, ?_⟩
      by_cases hbig : cell ≥ 10 ^ (18 : Int).toNat
      · rw [decide_eq_true hbig]
        refine iteT ⟨.int cell, rfl, .int k, rfl, _, _, rfl, rfl, ⟨m0, hk2⟩, .ref r, rfl, r, _, 3, 3, rfl, rfl, upd_same, rfl, .int cell, rfl, .inl ⟨_, rfl, .int k, rfl, _, _, rfl, rfl, m0, ?_⟩⟩
        refine fin _ (c + 1) _ (cell / k) _ (Int.emod_nonneg _ (by omega)) (Int.emod_lt_of_pos _ m0) (by omega) s0 s1 ?_
        rw [upd_upd, upd_upd]
        rfl
      · rw [decide_eq_false hbig]
        exact iteF ⟨.int cell, rfl, .inl ⟨_, rfl, .int k, rfl, _, _, rfl, rfl, m0, fin _ (c + 1) _ qq _ (Int.emod_nonneg _ (by omega)) (Int.emod_lt_of_pos _ m0) (by omega) s0 s1 (by rw [upd_upd]; rfl)⟩⟩
end
end LL
set_option Elab.async false
set_option linter.all false
set_option maxRecDepth 100000
set_option maxHeartbeats 1000000
set_option autoImplicit false
/-! Defs that draw from the row: their promise, their calls, what is done with what they give. -/
namespace LL
open PySem PySem.Spec PyProof.Rows L2
variable [Wd]
def spR (K : PySem.W.Frag) (Ps : List Addr) (FF : List PyData → (PyData → Prop) → Prop) : Sp := fun vs H Q _ => ∃ r scr us ds Φ, vs = .ref r :: us ∧ Ok Ps H ∧ RowOk K H r scr ∧ RqA (del H [r]) us ds ∧ FF ds Φ ∧
  ∀ d, Φ d → ∀ v H', Ok Ps H' → RowOk K H' r scr → Sm ([r] ++ Ps) H H' → Rp (del H' [r]) v d → Q v H'
def FF_law_taken : List PyData → (PyData → Prop) → Prop := fun ds Φ => ∃ k, ds = [.int k] ∧ 1 ≤ k ∧ k < 1073741824 ∧ ∀ i, 0 ≤ i → i < k → Φ (.int i)
theorem FnOk.imp {P : Program} {w : World} {K : PySem.W.Frag} {mg : Str → Option Value} {base : Heap} {k : Nat} {f : Addr} {fd : FuncData} {ps : List Str} {sp sp' : Sp} (h : FnOk P w K mg base CX0 k f fd ps sp) (w' : ∀ vs H Q E, sp' vs H Q E → sp vs H Q E) : FnOk P w K mg base CX0 k f fd ps sp' :=
  ⟨fun vs H Q E z => h.len vs H Q E (w' _ _ _ _ z), fun A outer s H args us vs Q E hr e0 hb r z => h.run A outer s H args us vs Q E hr e0 hb r (w' _ _ _ _ z)⟩
theorem taken_spR {K : PySem.W.Frag} {Ps : List Addr} (vs : List V) (H : Hp) (Q : VK) (E : XK) (h : spR K Ps FF_law_taken vs H Q E) : spTaken K Ps vs H Q E := by
  obtain ⟨r, scr, us, ds, Φ, rfl, ok, row, ra, ⟨k, rfl, h1, h2, h3⟩, q⟩ := h
  cases ra with
  | cons r1 r2 =>
    cases r2
    cases r1
    exact ⟨r, scr, k, rfl, ok, row, h1, h2, fun i H' a b ok' row' s => q _ (h3 i a b) _ _ ok' row' s (.int _)⟩
section
variable {Ps : List Addr} {K : PySem.W.Frag} {F : Frm} {X : Cx} {e : Expr} {pos : Pos} {ir : Nat}
/-- the row is written -/
theorem RelM.rowstep {H H' : Hp} {σ : L2.St} {ρ : DEnv} {ts : List (V × PyData)} (r : RelM Ps K F H σ ρ [(ir, .row)] ts) (k : Ok Ps H) (s : Sm ([adr σ ir] ++ Ps) H H') (ho : RowOk K H' (adr σ ir) F.scr) : RelM Ps K F H' σ ρ [(ir, .row)] ts := by
  have e0 := r.ent _ List.mem_cons_self
  have hrow : F.row = some (adr σ ir) := e0.2.1
  have ea : ads σ [(ir, MEnt.row)] = [adr σ ir] := rfl
  have hA : ∀ a ∈ [adr σ ir], Mutb H a := fun a ha => by
    rw [List.mem_singleton.mp ha]
    exact e0.mutb
  have sd : Sm Ps (del H (ads σ [(ir, MEnt.row)])) (del H' (ads σ [(ir, MEnt.row)])) := sm_del2 s
  refine ⟨r.sm.trans (by rw [hrow]; exact s), fun a o i e => imm_keep k s hA a o i (r.imm a o i e), fun p hp => ?_, r.inj, r.rel.mono (r.okd k) sd, fun t ht => Rp.mono (r.okd k) sd _ _ (r.tmp t ht)⟩
  rw [List.mem_singleton.mp hp]
  exact ⟨e0.1, hrow, ho⟩
theorem rqa_push {H : Hp} {σ : L2.St} {ρ : DEnv} {M : MM} {ts : List (V × PyData)} (kf : KFree K H) (r : RelM Ps K F H σ ρ M ts) : ∀ {us : List V} {ds : List PyData}, RqA H us ds → (∀ d ∈ ds, okM M d) → RqA (del H (ads σ M)) us ds
  | _, _, .nil, _ => .nil
  | _, _, .cons h1 h2, o => .cons ((r.push kf (o _ List.mem_cons_self) h1).tmp (_, _) List.mem_cons_self) (rqa_push kf r h2 fun d hd => o d (List.mem_cons_of_mem _ hd))
theorem pa_kf {es : List Expr} {t : TA} (h : PA X es t) : PA X es (fun σ H Q => t σ H fun vs H' => KFree X.K H' → Q vs H') := ⟨fun pos pins s σ H Q I q => thn (h.run pos pins s σ H _ I q) fun v s1 ⟨x, H1, I1, rx, q1⟩ => ⟨x, H1, I1, rx, q1 (inv_kfree I1)⟩⟩
/-- f(row, ..) -/
def wCallR (ir : Nat) (FF : List PyData → (PyData → Prop) → Prop) (Es : DEnv → Option (List PyData)) : EM PyData := fun ρ M Φ => M = [(ir, .row)] ∧ ∃ ds, Es (viewM ρ M) = some ds ∧ (∀ d ∈ ds, okM M d) ∧ FF ds fun d => Φ d M
theorem me_callR {x y : Str} {p p1 : Pos} {es : List Expr} {Es : DEnv → Option (List PyData)} {FF : List PyData → (PyData → Prop) → Prop} {k : Nat} {f : Addr} {fd : FuncData} {ps : List Str} (hK : X.K = K)
    (Fn : FnOk X.prog X.w X.K X.mg X.base CX0 k f fd ps (spR K Ps FF)) (hr : Room k X.A) (hg : Gl X x) (hm : X.mg x = some (.ref f)) (hk : PySem.W.keepIn X.K (.ref f) = true) (hb : Binds X.K fd ps [])
    (hv : PE X (.Name y p1) (tVar ir)) (ha : PA X es (tAs Ps Es)) (hdb : (x == ("__debug__" : Str)) = false := by decide)
    (hs : starEach (.Name y p1 :: es) X.env = (false, eval (.Name y p1) X.env) :: starEach es X.env := by rfl) (hpl : (backTo pos (starEach es X.env)).any (·.1) = false := by rfl) :
    PE X (.Call (.Name x p) (.Name y p1 :: es) [] pos) (tME Ps K F (wCallR ir FF Es)) :=
  pe_imp (pe_call Fn hr hg hm hk hb .nil pass0 (pa_cons hv (pa_kf ha) hs) hdb hs hpl) fun σ H Q ⟨ρ, M, ts, Φ, k, r, ⟨eM, ds, e1, ho, hF⟩, q⟩ => by
    subst eM
    obtain ⟨g1, g2, g3⟩ := r.ent _ List.mem_cons_self
    refine ⟨_, g1, viewM ρ [(ir, .row)], ds, k, r.view k, e1, fun us H1 s1 k1 r1 kf => ?_⟩
    have rr := r.step k s1
    obtain ⟨_, _, g4⟩ := rr.ent _ List.mem_cons_self
    have ra := rqa_push (hK ▸ kf) rr r1 ho
    refine ⟨adr σ ir, F.scr, us, ds, _, by rw [List.append_nil], k1, g4, ra, hF, fun d φ v H' k' row' s' rv => ?_⟩
    have r2 := rr.rowstep k1 s' row'
    refine q d _ φ v H' k' ⟨r2.sm, r2.imm, r2.ent, r2.inj, r2.rel, fun t ht => ?_⟩
    rcases List.mem_cons.mp ht with rfl | ht
    · exact rv
    · exact r2.tmp t ht
/-- n + e -/
def wAddC (n : Int) (E : EM PyData) : EM PyData := fun ρ M Φ => E ρ M fun d M' => ∃ i, d = .int i ∧ Φ (.int (n + i)) M'
theorem RelM.swapT {H : Hp} {σ : L2.St} {ρ : DEnv} {M : MM} {t t' : V × PyData} {ts : List (V × PyData)} (r : RelM Ps K F H σ ρ M (t :: ts)) (h : Rp (del H (ads σ M)) t'.1 t'.2) : RelM Ps K F H σ ρ M (t' :: ts) := ⟨r.sm, r.imm, r.ent, r.inj, r.rel, fun u hu => by
  rcases List.mem_cons.mp hu with rfl | hu
  · exact h
  · exact r.tmp u (List.mem_cons_of_mem _ hu)⟩
theorem me_addC {n : Int} {j : Nat} {p : Pos} {E : EM PyData} (h : PE X e (tME Ps K F E)) : PE X (.BinOp (.Constant (.int n) j p) .Add e pos) (tME Ps K F (wAddC n E)) :=
  pe_imp (pe_op op_add pe_int h) fun σ H Q ⟨ρ, M, ts, Φ, k, r, hE, q⟩ =>
    ⟨ρ, M, ts, _, k, r, hE, fun d M' ⟨i, e, φ⟩ v H' k' r' => by
      subst e
      have hv := r'.tmp (v, .int i) List.mem_cons_self
      have ev : v = .int i := by
        generalize hh : (v, PyData.int i) = t at hv
        cases hh
        cases hv
        rfl
      subst ev
      exact ⟨_, _, rfl, rfl, q _ _ φ _ _ k' (r'.swapT (.int _))⟩⟩
/-- e > n, e == n -/
def wGtC (n : Int) (E : EM PyData) : EM Bool := fun ρ M Φ => E ρ M fun d M' => ∃ i, d = .int i ∧ Φ (decide (n < i)) M'
theorem mt_gtC {n : Int} {j : Nat} {p : Pos} {E : EM PyData} (h : PE X e (tME Ps K F E)) (hm : behindInMarks .Gt (.Constant (.int n) j p) = false := by rfl) : PT X (.Compare e [.Gt] [.Constant (.int n) j p] pos) (tMT Ps K F (wGtC n E)) :=
  pt_imp (pt_cmpR op_gt h pe_int hm) fun σ H Q ⟨ρ, M, ts, Φ, k, r, hE, q⟩ =>
    ⟨ρ, M, ts, _, k, r, hE, fun d M' ⟨i, e, φ⟩ v H' k' r' => by
      subst e
      have hv := r'.tmp (v, .int i) List.mem_cons_self
      have ev : v = .int i := by
        generalize hh : (v, PyData.int i) = t at hv
        cases hh
        cases hv
        rfl
      subst ev
      exact ⟨_, _, rfl, rfl, _, rfl, q _ _ φ _ k' r'.drop⟩⟩
end
end LL
set_option Elab.async false
set_option linter.all false
set_option maxRecDepth 100000
set_option maxHeartbeats 1000000
set_option autoImplicit false
/-! More rules beside the row: arguments, tuples, calls of pure defs, subscripts, tests. -/
namespace LL
open PySem PySem.Spec PyProof.Rows L2
variable [Wd]
section
variable {Ps : List Addr} {K : PySem.W.Frag} {F : Frm} {X : Cx} {e : Expr} {pos : Pos} {ir : Nat}
theorem RelM.sub {H : Hp} {σ : L2.St} {ρ : DEnv} {M : MM} {ts ts' : List (V × PyData)} (r : RelM Ps K F H σ ρ M ts) (h : ∀ t ∈ ts', t ∈ ts) : RelM Ps K F H σ ρ M ts' := ⟨r.sm, r.imm, r.ent, r.inj, r.rel, fun t ht => r.tmp t (h t ht)⟩
theorem RelM.int {H : Hp} {σ : L2.St} {ρ : DEnv} {M : MM} {ts : List (V × PyData)} {v : V} {i : Int} (r : RelM Ps K F H σ ρ M ((v, .int i) :: ts)) : v = .int i := by
  have hv := r.tmp (v, .int i) List.mem_cons_self
  generalize hh : (v, PyData.int i) = t at hv
  cases hh
  cases hv
  rfl
def wEqC (n : Int) (E : EM PyData) : EM Bool := fun ρ M Φ => E ρ M fun d M' => ∃ i, d = .int i ∧ Φ (decide (i = n)) M'
theorem mt_eqC {n : Int} {j : Nat} {p : Pos} {E : EM PyData} (h : PE X e (tME Ps K F E)) (hm : behindInMarks .Eq (.Constant (.int n) j p) = false := by rfl) : PT X (.Compare e [.Eq] [.Constant (.int n) j p] pos) (tMT Ps K F (wEqC n E)) :=
  pt_imp (pt_cmpR op_eq h pe_int hm) fun σ H Q ⟨ρ, M, ts, Φ, k, r, hE, q⟩ =>
    ⟨ρ, M, ts, _, k, r, hE, fun d M' ⟨i, e, φ⟩ v H' k' r' => by
      subst e
      have ev := r'.int
      subst ev
      have ed : decide (V.int i = V.int n) = decide (i = n) := by
        rw [dec_int]
        by_cases h : i = n <;> simp [h]
      refine ⟨rfl, _, rfl, ?_⟩
      rw [ed]
      exact q _ _ φ _ k' r'.drop⟩
/-! ### arguments -/
def tMA (Ps : List Addr) (K : PySem.W.Frag) (F : Frm) (E : EM (List PyData)) : TA := fun σ H Q => ∃ ρ M ts Φ, Ok Ps H ∧ RelM Ps K F H σ ρ M ts ∧ E ρ M Φ ∧ ∀ ds M', Φ ds M' → ∀ vs H', vs.length = ds.length → Ok Ps H' → RelM Ps K F H' σ ρ M' (vs.zip ds ++ ts) → Q vs H'
def wNil : EM (List PyData) := fun _ M Φ => Φ [] M
def wCons (E : EM PyData) (Es : EM (List PyData)) : EM (List PyData) := fun ρ M Φ => E ρ M fun d M1 => Es ρ M1 fun ds M2 => Φ (d :: ds) M2
theorem ma_nil : PA X [] (tMA Ps K F wNil) := pa_imp pa_nil fun σ H Q ⟨ρ, M, ts, Φ, k, r, hE, q⟩ => q [] M hE [] H rfl k r
theorem ma_cons {es : List Expr} {E : EM PyData} {Es : EM (List PyData)} (h1 : PE X e (tME Ps K F E)) (h2 : PA X es (tMA Ps K F Es))
    (hs : starEach (e :: es) X.env = (false, eval e X.env) :: starEach es X.env := by rfl) : PA X (e :: es) (tMA Ps K F (wCons E Es)) :=
  pa_imp (pa_cons h1 h2 hs) fun σ H Q ⟨ρ, M, ts, Φ, k, r, hE, q⟩ =>
    ⟨ρ, M, ts, _, k, r, hE, fun d M1 h v H1 k1 r1 => ⟨ρ, M1, _, _, k1, r1, h, fun ds M2 φ vs H2 hl k2 r2 => q _ _ φ (v :: vs) H2 (by simp [hl]) k2 (r2.sub fun t ht => by
      simp only [List.zip_cons_cons, List.cons_append, List.mem_cons, List.mem_append] at ht ⊢
      rcases ht with h | h | h
      · exact .inr (.inl h)
      · exact .inl h
      · exact .inr (.inr h))⟩⟩
theorem rqa_of {H : Hp} : ∀ {vs : List V} {ds : List PyData}, vs.length = ds.length → (∀ t ∈ vs.zip ds, Rp H t.1 t.2) → RqA H vs ds
  | [], [], _, _ => .nil
  | v :: vs, d :: ds, hl, h => .cons (h (v, d) (by simp)) (rqa_of (by simpa using hl) fun t ht => h t (by simp [ht]))
  | [], _ :: _, hl, _ => by simp at hl
  | _ :: _, [], hl, _ => by simp at hl
/-- a pure def called with what was drawn -/
def wCallP (FF : List PyData → Option PyData) (Es : EM (List PyData)) : EM PyData := fun ρ M Φ => Es ρ M fun ds M' => ∃ d, FF ds = some d ∧ okM M' d ∧ Φ d M'
theorem me_callP {x : Str} {p : Pos} {es : List Expr} {Es : EM (List PyData)} {FF : List PyData → Option PyData} {k : Nat} {f : Addr} {fd : FuncData} {ps : List Str} (hK : X.K = K)
    (Fn : FnOk X.prog X.w X.K X.mg X.base CX0 k f fd ps (spD Ps FF)) (hr : Room k X.A) (hg : Gl X x) (hm : X.mg x = some (.ref f)) (hk : PySem.W.keepIn X.K (.ref f) = true) (hb : Binds X.K fd ps [])
    (ha : PA X (e :: es) (tMA Ps K F Es)) (hdb : (x == ("__debug__" : Str)) = false := by decide)
    (hs : starEach (e :: es) X.env = (false, eval e X.env) :: starEach es X.env := by rfl) (hpl : (backTo pos (starEach es X.env)).any (·.1) = false := by rfl) :
    PE X (.Call (.Name x p) (e :: es) [] pos) (tME Ps K F (wCallP FF Es)) :=
  pe_imp (pe_kf (pe_call Fn hr hg hm hk hb .nil pass0 ha hdb hs hpl)) fun σ H Q ⟨ρ, M, ts, Φ, k, r, hE, q⟩ =>
    ⟨ρ, M, ts, _, k, r, hE, fun ds M' ⟨d, e1, o, φ⟩ vs H' hl k' r' => ⟨ds, d, k', by
      rw [List.append_nil]
      exact rqa_of hl fun t ht => r'.temp k' (List.mem_append_left _ ht), e1, fun v H2 s2 k2 rv kf => q d M' φ v H2 k2 (((r'.step k' s2).sub fun t ht => List.mem_append_right _ ht).push (hK ▸ kf) o rv)⟩⟩
/-- a tuple display -/
def wTup (Es : EM (List PyData)) : EM PyData := fun ρ M Φ => Es ρ M fun ds M' => ∃ d, mkT ds = some d ∧ Φ d M'
theorem me_tup {es : List Expr} {x1 : Nat} {Es : EM (List PyData)} (h : PA X es (tMA Ps K F Es)) : PE X (.Tuple es x1 pos) (tME Ps K F (wTup Es)) :=
  pe_imp (pe_tup h) fun σ H Q ⟨ρ, M, ts, Φ, k, r, hE, q⟩ =>
    ⟨ρ, M, ts, _, k, r, hE, fun ds M' ⟨d, e1, φ⟩ vs H' hl k' r' => by
      obtain ⟨⟨h1, h2⟩, rfl⟩ := ifs e1
      refine ⟨by rw [hl]; exact h1, fun p hp => ?_⟩
      have ra := (rqa_of hl fun t ht => r'.temp k' (List.mem_append_left _ ht)).im h2
      have s1 : Sm Ps H' (upd H' p (.tup vs)) := .new hp
      have r2 := (r'.step k' s1).sub (ts' := ts) fun t ht => List.mem_append_right _ ht
      refine q _ _ φ _ _ (k'.new hp) ⟨r2.sm, r2.imm, r2.ent, r2.inj, r2.rel, fun t ht => ?_⟩
      rcases List.mem_cons.mp ht with rfl | ht
      · exact (rt_del r2.mut (.tup upd_same (RpA.mono k' s1 _ _ ra))).up
      · exact r2.tmp t ht⟩
/-- tuple(e) -/
def wTuple (E : EM PyData) : EM PyData := fun ρ M Φ => E ρ M fun d M' => ∃ ds, d = .list ds ∧ Φ (.tuple ds) M'
theorem me_tuple {p : Pos} {E : EM PyData} (hg : Gl X "tuple") (hm : X.mg "tuple" = none) (ha : PE X e (tME Ps K F E)) (he : starEach [e] X.env = (false, eval e X.env) :: starEach [] X.env := by rfl) : PE X (.Call (.Name "tuple" p) [e] [] pos) (tME Ps K F (wTuple E)) :=
  pe_imp (pe_callTy call_tuple_of hg hm boot_tuple (pa_cons ha pa_nil he) (he := he)) fun σ H Q ⟨ρ, M, ts, Φ, k, r, hE, q⟩ =>
    ⟨ρ, M, ts, _, k, r, hE, fun d M' ⟨ds, e1, φ⟩ v H' k' r' => by
      subst e1
      have hv := r'.temp k' List.mem_cons_self
      generalize hh : (PyData.list ds) = dd at hv
      cases hv with
      | @lst a0 xs0 ds0 h1 h2 =>
        cases hh
        refine ⟨_, _, rfl, .inl ⟨SqL.of h1, fun p hp => ?_⟩⟩
        have s1 : Sm Ps H' (upd H' p (.tup xs0)) := .new hp
        have r2 := (r'.step k' s1).drop
        refine q _ _ φ _ _ (k'.new hp) ⟨r2.sm, r2.imm, r2.ent, r2.inj, r2.rel, fun t ht => ?_⟩
        rcases List.mem_cons.mp ht with rfl | ht
        · exact (rt_del r2.mut (.tup upd_same (RpA.mono k' s1 _ _ h2))).up
        · exact r2.tmp t ht
      | _ => cases hh⟩
/-- a[e] -/
def wIdx (Ea : DEnv → Option PyData) (E : EM PyData) : EM PyData := fun ρ M Φ => ∃ da, Ea (viewM ρ M) = some da ∧ okM M da ∧ E ρ M fun d M' => ∃ x, ixD da d = some x ∧ notL x = true ∧ Φ x M'
theorem me_idx {a : Expr} {Ea : DEnv → Option PyData} {E : EM PyData} (hK : X.K = K) (ha : PE X a (tD Ps Ea)) (hb : PE X e (tME Ps K F E)) (hs : PlainIx e := by exact fun _ _ => rfl) : PE X (.Subscript a e pos) (tME Ps K F (wIdx Ea E)) :=
  pe_imp (pe_ix (ix_list.or ix_tup) (pe_kf ha) hb hs) fun σ H Q ⟨ρ, M, ts, Φ, k, r, ⟨da, e1, o, hE⟩, q⟩ =>
    ⟨viewM ρ M, da, k, r.view k, e1, fun v H1 s1 k1 rv kf => ⟨ρ, M, (v, da) :: ts, _, k1, (r.step k s1).push (hK ▸ kf) o rv, hE, fun d M' ⟨x, e2, hn, φ⟩ u H2 k2 r2 => by
      have hv := r2.temp k2 (List.mem_cons_of_mem _ List.mem_cons_self)
      have fin : ∀ y, Rp H2 y x → Q y H2 := fun y ry => q x M' φ y H2 k2 (by
        have r3 := r2.drop.drop
        exact ⟨r3.sm, r3.imm, r3.ent, r3.inj, r3.rel, fun t ht => by
          rcases List.mem_cons.mp ht with rfl | ht
          · exact (rt_del r3.mut (ry.im hn)).up
          · exact r3.tmp t ht⟩)
      cases d with
      | int i =>
        have eu := r2.int
        subst eu
        generalize hvv : (v, da) = tt at hv
        cases hvv
        cases hv with
        | lst h1 h2 =>
          obtain ⟨y, g1, g2⟩ := atI_get h2 (show atI _ i = some x from e2)
          exact .inl ⟨_, _, i, y, rfl, rfl, SqL.of h1, g1, fin y g2⟩
        | tup h1 h2 =>
          obtain ⟨y, g1, g2⟩ := atI_get h2 (show atI _ i = some x from e2)
          exact .inr ⟨_, _, i, y, rfl, rfl, SqT.of h1, g1, fin y g2⟩
        | _ => cases e2
      | _ => cases da <;> cases e2⟩⟩
end
end LL
set_option Elab.async false
set_option linter.all false
set_option maxRecDepth 100000
set_option maxHeartbeats 2000000
set_option autoImplicit false
/-! Comprehensions whose elements and tests draw from the row. -/
namespace LL
open PySem PySem.Spec PyProof.Rows L2
variable [Wd]
section
variable {Ps : List Addr} {K : PySem.W.Frag} {F : Frm} {X : Cx} {e : Expr} {pos : Pos} {ir : Nat}
/-! ### what is walked -/
def tMI (Ps : List Addr) (K : PySem.W.Frag) (F : Frm) (I : EM (List PyData)) : TI := fun σ H R => ∃ ρ M ts Φ, Ok Ps H ∧ RelM Ps K F H σ ρ M ts ∧ I ρ M Φ ∧ ∀ ds M', Φ ds M' → ∀ J H', Ok Ps H' → RelM Ps K F H' σ ρ M' ts → ItOkI Ps J ds H' → R J H'
def wI (I : DEnv → Option (List PyData)) : EM (List PyData) := fun ρ M Φ => ∃ ds, I (viewM ρ M) = some ds ∧ Φ ds M
theorem mi_pure {tg iter : Expr} {I : DEnv → Option (List PyData)} (h : PI X tg iter (tII Ps I)) : PI X tg iter (tMI Ps K F (wI I)) := pi_imp h fun σ H R ⟨ρ, M, ts, Φ, k, r, ⟨ds, e1, φ⟩, q⟩ =>
  ⟨viewM ρ M, ds, k, r.view k, e1, fun J H' s k' iok => q ds M φ J H' k' (r.step k s) iok⟩
def wR1 (E : EM PyData) : EM (List PyData) := fun ρ M Φ => E ρ M fun d M' => ∃ n, d = .int n ∧ -16777216 ≤ n ∧ n ≤ 16777216 ∧ Φ (rgD 0 n) M'
theorem mi_rg1 {tg a : Expr} {p : Pos} {E : EM PyData} (hg : Gl X "range") (hm : X.mg "range" = none) (ha : PE X a (tME Ps K F E)) (hs : starEach [a] X.env = (false, eval a X.env) :: starEach [] X.env := by rfl) :
    PI X tg (.Call (.Name "range" p) [a] [] pos) (tMI Ps K F (wR1 E)) := pi_imp (pi_range1 hg hm (pa_cons ha pa_nil hs) hs) fun σ H R ⟨ρ, M, ts, Φ, k, r, hE, q⟩ =>
  ⟨ρ, M, ts, _, k, r, hE, fun d M' ⟨n, e1, h1, h2, φ⟩ v H' k' r' => by
    subst e1
    have ev := r'.int
    subst ev
    refine ⟨n, rfl, by omega, by omega, q _ _ φ _ _ k' r'.drop ?_⟩
    have z := itoki_rng (Ps := Ps) (a := 0) (b := n) (H := H')
    rw [Int.sub_zero] at z
    exact z⟩
/-! ### a list under construction -/
theorem rp_ref {S : Hp} {v : V} {d : PyData} {D : Addr} (h : Rp S v d) (hD : S D = none) : v ≠ .ref D := fun e => by
  subst e
  generalize hv : V.ref D = v at h
  cases h with
  | lst e _ => cases hv; rw [hD] at e; cases e
  | tup e _ => cases hv; rw [hD] at e; cases e
  | dct e _ => cases hv; rw [hD] at e; cases e
  | opl e => cases hv; rw [hD] at e; cases e
  | opd e => cases hv; rw [hD] at e; cases e
  | _ => cases hv
theorem rp_write {S S' : Hp} {v : V} {d : PyData} {D : Addr} (hv : v ≠ .ref D) (h1 : ∀ b o, b ≠ D → S b = some o → S' b = some o) (h2 : ∀ o, S D = some o → ¬ Imm o) (h : Rp S v d) : Rp S' v d := by
  have im : ∀ a o, Imm o → S a = some o → S' a = some o := fun a o i e => by
    by_cases ha : a = D
    · subst ha
      exact absurd i (h2 o e)
    · exact h1 a o ha e
  cases hn : notL d with
  | true => exact (Rt.keep im _ _ (h.im hn)).up
  | false =>
    cases h with
    | @lst a xs ds e ra =>
      have ha : a ≠ D := fun z => hv (by rw [z])
      exact .lst (h1 a _ ha e) (RpA.keep im _ _ ra)
    | _ => cases hn
/-- a list that nothing else names is written -/
theorem RelM.writeD {H : Hp} {σ : L2.St} {ρ : DEnv} {M : MM} {ts : List (V × PyData)} {D : Addr} {old new : List V} (r : RelM Ps K F H σ ρ M ts) (k : Ok Ps H) (hD : H D = some (.lst old)) (hM : D ∉ ads σ M) (hrow : K.lookup F.scr = none → D ≠ F.scr) (h0 : F.H0 D = none)
    (hts : ∀ t ∈ ts, t.1 ≠ .ref D) (hr : ∀ (i : Nat) (d : PyData), ρ[i]? = some (some d) → σ[i]? ≠ some (some (.ref D))) : RelM Ps K F (upd H D (.lst new)) σ ρ M ts := by
  have hDm : Mutb H D := mutb_lst hD
  have s1 : Sm ([D] ++ Ps) H (upd H D (.lst new)) := fun b o nb e => by
    have hb : b ≠ D := fun z => nb (by simp [z])
    rw [upd_ne hb]
    exact e
  have hA : ∀ a ∈ [D], Mutb H a := fun a ha => by
    rw [List.mem_singleton.mp ha]
    exact hDm
  have w1 : ∀ b o, b ≠ D → del H (ads σ M) b = some o → del (upd H D (.lst new)) (ads σ M) b = some o := fun b o hb e => by
    obtain ⟨g1, g2⟩ := del_some e
    exact del_of g1 (by rw [upd_ne hb]; exact g2)
  have w2 : ∀ o, del H (ads σ M) D = some o → ¬ Imm o := fun o e => by
    have := (del_some e).2
    rw [hD] at this
    cases this
    exact fun i => by cases i
  refine ⟨fun b o nb e => ?_, fun a o i e => imm_keep k s1 hA a o i (r.imm a o i e), fun p hp => ?_, r.inj, ⟨r.rel.len, fun i d e => ?_⟩, fun t ht => rp_write (hts t ht) w1 w2 (r.tmp t ht)⟩
  · have hb : b ≠ D := fun z => by
      rw [z, h0] at e
      cases e
    rw [upd_ne hb]
    exact r.sm b o nb e
  · have hx := r.ent p hp
    have hn : adr σ p.1 ∉ [D] := fun z => hM (by rw [← List.mem_singleton.mp z]; exact ads_mem hp)
    obtain ⟨j, me⟩ := p
    cases me with
    | own d0 => exact ⟨hx.1, hx.2.1.keep k s1 hA hn, hx.2.2⟩
    | prot =>
      obtain ⟨h1, ds, h2, h3, h4⟩ := hx
      exact ⟨h1, ds, h2, h3.keep k s1 hA hn, h4⟩
    | row =>
      obtain ⟨ns, c, st, q, z1, z2, z3⟩ := hx.2.2
      exact ⟨hx.1, hx.2.1, ns, c, st, q, by rw [upd_ne (fun z => hn (by simp [z]))]; exact z1, z2.keep fun g o e => by rw [upd_ne (Ne.symm (hrow g))]; exact e, z3⟩
  · obtain ⟨v, g1, g2⟩ := r.rel.get i d e
    exact ⟨v, g1, rp_write (fun z => hr i d e (by rw [g1, z])) w1 w2 g2⟩
/-- what the slots hold, as temporaries -/
def slotT (σ : L2.St) (ρ : DEnv) : List (V × PyData) := (σ.zip ρ).filterMap fun p => match p with
  | (some v, some d) => some (v, d)
  | _ => none
theorem slotT_mem {σ : L2.St} {ρ : DEnv} {i : Nat} {v : V} {d : PyData} (h1 : σ[i]? = some (some v)) (h2 : ρ[i]? = some (some d)) : (v, d) ∈ slotT σ ρ := by
  unfold slotT
  refine List.mem_filterMap.mpr ⟨(some v, some d), ?_, rfl⟩
  exact List.mem_of_getElem? (i := i) (by rw [List.getElem?_zip_eq_some]; exact ⟨h1, h2⟩)
theorem slotT_of {σ : L2.St} {ρ : DEnv} {t : V × PyData} (h : t ∈ slotT σ ρ) : ∃ i : Nat, σ[i]? = some (some t.1) ∧ ρ[i]? = some (some t.2) := by
  obtain ⟨p, hp, e⟩ := List.mem_filterMap.mp h
  obtain ⟨i, hi⟩ := List.mem_iff_getElem?.mp hp
  rw [List.getElem?_zip_eq_some] at hi
  obtain ⟨a, b⟩ := p
  cases a with
  | none => cases e
  | some v =>
    cases b with
    | none => cases e
    | some d =>
      cases e
      exact ⟨i, hi⟩
theorem RelM.hold {H : Hp} {σ : L2.St} {ρ : DEnv} {M : MM} {ts : List (V × PyData)} (r : RelM Ps K F H σ ρ M ts) : RelM Ps K F H σ ρ M (slotT σ ρ ++ ts) := ⟨r.sm, r.imm, r.ent, r.inj, r.rel, fun t ht => by
  rcases List.mem_append.mp ht with h | h
  · obtain ⟨i, h1, h2⟩ := slotT_of h
    obtain ⟨v, g1, g2⟩ := r.rel.get i t.2 h2
    rw [h1] at g1
    cases g1
    exact g2
  · exact r.tmp t h⟩
theorem wipe_get {σ : L2.St} : ∀ {vs : List Nat} {j : Nat}, j ∉ vs → (L2.wipe σ vs)[j]? = σ[j]?
  | [], _, _ => rfl
  | v :: vs, j, h => by
    unfold L2.wipe
    rw [List.getElem?_set_ne (fun z => h (by simp [z]))]
    exact wipe_get (fun z => h (List.mem_cons_of_mem _ z))
/-- the slots of a block are forgotten -/
theorem RelM.wipe {H : Hp} {σ : L2.St} {ρ : DEnv} {M : MM} {ts : List (V × PyData)} {vs : List Nat} (r : RelM Ps K F H σ ρ M ts) (hv : ∀ p ∈ M, p.1 ∉ vs) : RelM Ps K F H (L2.wipe σ vs) (wipeD ρ vs) M ts := by
  have ea : ads (L2.wipe σ vs) M = ads σ M := List.map_congr_left fun p hp => adr_eq (wipe_get (hv p hp))
  refine ⟨r.sm, r.imm, fun p hp => ?_, fun p hp q hq h => ?_, by rw [ea]; exact r.rel.wipe vs, by rw [ea]; exact r.tmp⟩
  · have := r.ent p hp
    unfold EntOk at this ⊢
    rw [adr_eq (wipe_get (hv p hp)), wipe_get (hv p hp)]
    exact this
  · rw [adr_eq (wipe_get (hv p hp)), adr_eq (wipe_get (hv q hq))] at h
    exact r.inj p hp q hq h
/-- back from the block: the outer slots from what was held -/
theorem RelM.outer {H : Hp} {σ σ2 : L2.St} {ρ ρ2 : DEnv} {M : MM} {ts : List (V × PyData)} {vs : List Nat} (r : RelM Ps K F H σ2 ρ2 M ts) (hv : ∀ p ∈ M, p.1 ∉ vs) (hw : L2.wipe σ2 vs = L2.wipe σ vs) (hl : ρ.length = σ.length) (hs : ∀ t ∈ slotT σ ρ, t ∈ ts) (hρ : ∀ (i : Nat) (d : PyData), ρ[i]? = some (some d) → ∃ v, σ[i]? = some (some v)) : RelM Ps K F H σ ρ M ts := by
  have eg : ∀ p ∈ M, σ[p.1]? = σ2[p.1]? := fun p hp => by
    rw [← wipe_get (σ := σ) (hv p hp), ← wipe_get (σ := σ2) (hv p hp), hw]
  have ea : ads σ M = ads σ2 M := List.map_congr_left fun p hp => adr_eq (eg p hp)
  refine ⟨r.sm, r.imm, fun p hp => ?_, fun p hp q hq h => ?_, ⟨hl, fun i d e => ?_⟩, by rw [ea]; exact r.tmp⟩
  · have := r.ent p hp
    unfold EntOk at this ⊢
    rw [adr_eq (eg p hp), eg p hp]
    exact this
  · rw [adr_eq (eg p hp), adr_eq (eg q hq)] at h
    exact r.inj p hp q hq h
  · obtain ⟨v, hv'⟩ := hρ i d e
    refine ⟨v, hv', ?_⟩
    rw [ea]
    exact r.tmp (v, d) (hs _ (slotT_mem hv' e))
theorem wipe_none {σ : L2.St} : ∀ {vs : List Nat} {j : Nat}, j ∈ vs → j < σ.length → (L2.wipe σ vs)[j]? = some none
  | v :: vs, j, h, hl => by
    unfold L2.wipe
    by_cases hj : v = j
    · subst hj
      exact List.getElem?_set_self (by rw [L2.wipe_length]; exact hl)
    · rw [List.getElem?_set_ne hj]
      exact wipe_none (by
        rcases List.mem_cons.mp h with z | z
        · exact absurd z.symm hj
        · exact z) hl
theorem wipe_ext {σ σ' : L2.St} {vs : List Nat} (h : ∀ i, i ∉ vs → σ'[i]? = σ[i]?) (hl : σ'.length = σ.length) : L2.wipe σ' vs = L2.wipe σ vs := by
  apply List.ext_getElem?
  intro i
  by_cases hi : i ∈ vs
  · by_cases hn : i < σ.length
    · rw [wipe_none hi hn, wipe_none hi (by omega)]
    · rw [List.getElem?_eq_none (by rw [L2.wipe_length]; omega), List.getElem?_eq_none (by rw [L2.wipe_length]; omega)]
  · rw [wipe_get hi, wipe_get hi, h i hi]
/-! ### the comprehension -/
def lcM (ir : Nat) (T : EM Bool) (E : EM PyData) (vs : List Nat) (G : PyData → DEnv → Option DEnv) (ρw : DEnv) : List PyData → List PyData → (List PyData → MM → Prop) → Prop
  | [], acc, Φ => Φ acc [(ir, .row)]
  | d :: r, acc, Φ => ∃ ρ1, G d ρw = some ρ1 ∧ T ρ1 [(ir, .row)] fun b M1 => M1 = [(ir, .row)] ∧ if b = true then E ρ1 M1 fun x M2 => M2 = [(ir, .row)] ∧ notL x = true ∧ acc.length < sizeLine ∧ lcM ir T E vs G ρw r (acc ++ [x]) Φ else lcM ir T E vs G ρw r acc Φ
def wLc (ir : Nat) (I : EM (List PyData)) (vs : List Nat) (G : PyData → DEnv → Option DEnv) (T : EM Bool) (E : EM PyData) : EM PyData := fun ρ M Φ => ir ∉ vs ∧ I ρ M fun ds M1 => M1 = [(ir, .row)] ∧ lcM ir T E vs G (wipeD ρ vs) ds [] fun l M2 => Φ (.list l) M2
theorem lcm_imp {g : TG} {G : PyData → DEnv → Option DEnv} {vs : List Nat} {I : EM (List PyData)} {T : EM Bool} {E : EM PyData} (og : OwnM g vs Ps G) (σ : L2.St) (H : Hp) (Q : VK) (h : tME Ps K F (wLc ir I vs G T E) σ H Q) : tLc (tMI Ps K F I) g (fun σ H Q => ∃ F', tMT Ps K F' T σ H Q) (fun σ H Q => ∃ F', tME Ps K F' E σ H Q) vs σ H Q := by
  obtain ⟨ρ, M, ts, Φ, k, r, ⟨hir, hI⟩, q⟩ := h
  refine ⟨ρ, M, slotT σ ρ ++ ts, _, k, r.hold, hI, fun ds M1 hL J H1 k1 r1 iok D hD => ?_⟩
  obtain ⟨eM, hL⟩ := hL
  subst eM
  have hv : ∀ p ∈ [(ir, MEnt.row)], p.1 ∉ vs := fun p hp => by
    rw [List.mem_singleton.mp hp]
    exact hir
  have dD : del H1 (ads σ [(ir, MEnt.row)]) D = none := by
    unfold del
    rw [hD]
    split <;> rfl
  have noT : ∀ t ∈ slotT σ ρ ++ ts, t.1 ≠ .ref D := fun t ht => rp_ref (r1.tmp t ht) dD
  obtain ⟨hs1, hrow1, hro1⟩ := r1.ent _ List.mem_cons_self
  have hDr : D ≠ adr σ ir := fun z => by
    obtain ⟨ns, c, st, qq, z1, _⟩ := hro1
    rw [← z, hD] at z1
    cases z1
  have hscr : K.lookup F.scr = none → D ≠ F.scr := fun g z => by
    obtain ⟨ns, c, st, qq, _, z2, _⟩ := hro1
    rcases z2 with ⟨_, z2 | ⟨o, z2⟩⟩ | ⟨o, its, n, z2, _⟩
    · rw [← z, hD] at z2; cases z2
    · rw [← z, hD] at z2; cases z2
    · rw [g] at z2; cases z2
  have h0 : F.H0 D = none := by
    cases h : F.H0 D with
    | none => rfl
    | some o =>
      have hP : D ∉ Ps := fun z => by
        obtain ⟨ps, e, _⟩ := k1.1 D z
        rw [hD] at e
        cases e
      have := r1.sm D o (by rw [hrow1]; simp [hP, hDr]) h
      rw [hD] at this
      cases this
  have rlen := r1.rel.len
  have rget : ∀ (i : Nat) (d : PyData), ρ[i]? = some (some d) → ∃ v, σ[i]? = some (some v) := fun i d e => let ⟨v, e1, _⟩ := r1.rel.get i d e; ⟨v, e1⟩
  have s1 : Sm Ps H1 (upd H1 D (.lst [])) := .new hD
  have r2 : RelM Ps K (F.at H1) (upd H1 D (.lst [])) σ ρ [(ir, .row)] (slotT σ ρ ++ ts) := r1.start.step k1 s1
  refine ⟨fun i m H2 => m = ds.length - i ∧ i ≤ ds.length ∧ Ok Ps H2 ∧ ∃ acc la, RelM Ps K (F.at H1) H2 σ ρ [(ir, .row)] (slotT σ ρ ++ ts) ∧ H2 D = some (.lst acc) ∧ RpA H2 acc la ∧ lcM ir T E vs G (wipeD ρ vs) (ds.drop i) la fun l M2 => Φ (.list l) M2,
    ⟨ds.length, rfl, Nat.zero_le _, k1.new hD, [], [], r2, upd_same, .nil, hL⟩, ?_⟩
  rintro i m H2 ⟨rfl, hi, k2, acc, la, r2, eD, ra, hL2⟩
  obtain ⟨go, stop⟩ := iok i H2 r2.imm k2
  have nadr : D ∉ ads σ [(ir, MEnt.row)] := fun z => hDr (by simpa [ads] using z)
  have keep : ∀ {H5 : Hp} {σ2 : L2.St} {ρ2 : DEnv} {ts5 : List (V × PyData)} {y : V} {x : PyData} {acc5 : List V}, Ok Ps H5 → RelM Ps K (F.at H1) H5 σ2 ρ2 [(ir, .row)] ts5 → L2.wipe σ2 vs = L2.wipe σ vs → (∀ t ∈ slotT σ ρ ++ ts, t ∈ ts5) → RelM Ps K (F.at H1) H5 σ ρ [(ir, .row)] (slotT σ ρ ++ ts) := fun k5 r5 w5 h5 =>
    (r5.outer hv w5 rlen (fun t ht => h5 t (List.mem_append_left _ ht)) rget).sub h5
  by_cases hlt : i < ds.length
  · rw [List.drop_eq_getElem_cons hlt] at hL2
    obtain ⟨ρ1, hG, hT⟩ := hL2
    obtain ⟨g1, g2⟩ := go _ (List.getElem?_eq_getElem hlt)
    refine .inr ⟨g1, fun H' => i + 1 ≤ ds.length ∧ Ok Ps H' ∧ ∃ acc la, RelM Ps K (F.at H1) H' σ ρ [(ir, .row)] (slotT σ ρ ++ ts) ∧ H' D = some (.lst acc) ∧ RpA H' acc la ∧ lcM ir T E vs G (wipeD ρ vs) (ds.drop (i + 1)) la fun l M2 => Φ (.list l) M2, fun H' n => ⟨ds.length - (i + 1), by omega, rfl, n.1, n.2⟩, fun x H' y => ?_⟩
    obtain ⟨s3, k3, rx⟩ := g2 x H' y
    have r3 := r2.step k2 s3
    have eD3 : H' D = some (.lst acc) := s3.lst k2 eD
    have ra3 := RpA.mono k2 s3 _ _ ra
    -- the list under construction is held too
    have r3d : RelM Ps K (F.at H1) H' σ ρ [(ir, .row)] ((x, ds[i]) :: (.ref D, .list la) :: (slotT σ ρ ++ ts)) := ⟨r3.sm, r3.imm, r3.ent, r3.inj, r3.rel, fun t ht => by
      rcases List.mem_cons.mp ht with rfl | ht
      · exact (rt_del r3.mut rx).up
      · rcases List.mem_cons.mp ht with rfl | ht
        · refine .lst (del_of nadr eD3) (RpA.keep (fun a o im e => del_of (fun ha => ?_) e) _ _ ra3)
          obtain ⟨o', z1, _, _, z4⟩ := r3.mut a ha
          rw [e] at z1
          cases z1
          exact z4 im
        · exact r3.tmp t ht⟩
    have r3w := r3d.wipe hv
    refine r3w.goal og hG hv fun σ4 r4 w4 l4 => ?_
    have w4' : L2.wipe σ4 vs = L2.wipe σ vs := by
      rw [wipe_ext w4 l4]
      exact wipe_wipe _ _
    have w4'' : L2.wipe σ4 vs = L2.wipe (L2.wipe σ vs) vs := wipe_ext w4 l4
    refine ⟨by rw [w4'], F.at H1, ρ1, [(ir, .row)], _, _, k3, r4, hT, fun b M1 ⟨eM1, hb⟩ H5 k5 r5 => ?_⟩
    subst eM1
    have dataD : ∀ {H6 : Hp} {ts6 : List (V × PyData)}, Ok Ps H6 → RelM Ps K (F.at H1) H6 σ4 ρ1 [(ir, .row)] ts6 → (V.ref D, PyData.list la) ∈ ts6 → ∃ acc6, H6 D = some (.lst acc6) ∧ RpA H6 acc6 la := fun k6 r6 h6 => by
      have hv6 := r6.temp k6 h6
      generalize hz : (V.ref D, PyData.list la) = z at hv6
      obtain ⟨z1, z2⟩ := z
      generalize hz2 : PyData.list la = dl at hz
      cases hz
      cases hv6 with
      | lst q1 q2 =>
        cases hz2
        exact ⟨_, q1, q2⟩
      | _ => cases hz2
    cases b with
    | false =>
      refine iteF ?_
      have hb : lcM ir T E vs G (wipeD ρ vs) (ds.drop (i + 1)) la fun l M2 => Φ (.list l) M2 := by simpa using hb
      obtain ⟨acc5, z1, z2⟩ := dataD k5 r5 List.mem_cons_self
      exact ⟨hlt, k5, acc5, la, keep (y := x) (x := ds[i]) (acc5 := acc5) k5 r5 w4' (fun t ht => List.mem_cons_of_mem _ ht), z1, z2, hb⟩
    | true =>
      rw [if_pos rfl] at hb
      refine iteT ⟨F.at H1, ρ1, [(ir, .row)], _, _, k5, r5, hb, fun xd M2 ⟨eM2, hn, hz, hL3⟩ y H6 k6 r6 => ?_⟩
      subst eM2
      obtain ⟨acc6, z1, z2⟩ := dataD k6 r6 (List.mem_cons_of_mem _ List.mem_cons_self)
      have ry := (r6.temp k6 List.mem_cons_self).im hn
      have ro := keep (y := y) (x := xd) (acc5 := acc6) k6 r6 w4' (fun t ht => List.mem_cons_of_mem _ (List.mem_cons_of_mem _ ht))
      have imk : ∀ a o, Imm o → H6 a = some o → (upd H6 D (.lst (acc6 ++ [y]))) a = some o := fun a o im e => by
        rw [upd_ne (ne_of e z1 im.noL)]
        exact e
      refine ⟨acc6, z1, by rw [z2.length]; exact hz, hlt, k6.put z1 no_lst nc_lst, acc6 ++ [y], la ++ [xd], ?_, upd_same, RpA.append (RpA.keep imk _ _ z2) (.cons (Rt.keep imk _ _ ry) .nil), hL3⟩
      refine ro.writeD k6 z1 nadr hscr h0 noT fun j dj ej => ?_
      intro ez
      obtain ⟨v, hv'⟩ := rget j dj ej
      rw [ez] at hv'
      cases hv'
      exact noT _ (List.mem_append_left _ (slotT_mem ez ej)) rfl
  · have hi' : i = ds.length := by omega
    subst hi'
    rw [List.drop_length] at hL2
    refine .inl ⟨stop (Nat.le_refl _), q _ _ hL2 _ _ k2 ?_⟩
    have rb := r2.back r1.imm
    exact ⟨rb.sm, rb.imm, rb.ent, rb.inj, rb.rel, fun t ht => by
      rcases List.mem_cons.mp ht with rfl | ht
      · refine .lst (del_of nadr eD) (RpA.keep (fun a o im e => del_of (fun ha => ?_) e) _ _ ra)
        obtain ⟨o', z1, _, _, z4⟩ := rb.mut a ha
        rw [e] at z1
        cases z1
        exact z4 im
      · exact rb.tmp t (List.mem_append_right _ ht)⟩
end
end LL
set_option Elab.async false
set_option linter.all false
set_option maxRecDepth 100000
set_option maxHeartbeats 2000000
set_option autoImplicit false
/-! The rules of comprehensions that draw, x, y = a, b, or, assigned comprehensions; the promise of a def that draws. -/
namespace LL
open PySem PySem.Spec PyProof.Rows L2
variable [Wd]
section
variable {Ps : List Addr} {K : PySem.W.Frag} {F : Frm} {X : Cx} {e : Expr} {pos : Pos} {ir : Nat}
def wYes : EM Bool := fun _ M Φ => Φ true M
theorem mts_nil : PTs X [] (tMT Ps K F wYes) := ⟨fun pins s σ H Q I ⟨ρ, M, ts, Φ, k, r, φ, q⟩ => pts_nil.run pins s σ H Q I (q true M φ H k r)⟩
theorem mts_one {c : Expr} {T : EM Bool} (h : PT X c (tMT Ps K F T)) : PTs X [c] (tMT Ps K F T) := pts_one h
theorem pts_ex {ifs : List Expr} {T : EM Bool} (h : ∀ F, PTs X ifs (tMT Ps K F T)) : PTs X ifs (fun σ H Q => ∃ F', tMT Ps K F' T σ H Q) := ⟨fun pins s σ H Q I ⟨F', q⟩ => (h F').run pins s σ H Q I q⟩
theorem pe_ex {T : EM PyData} (h : ∀ F, PE X e (tME Ps K F T)) : PE X e (fun σ H Q => ∃ F', tME Ps K F' T σ H Q) := ⟨fun pins s σ H Q I ⟨F', q⟩ => (h F').run pins s σ H Q I q⟩
theorem me_lc {elt tg iter : Expr} {ifs : List Expr} {scope : Scope} {own : List (Str × Nat)} {I : EM (List PyData)} {g : TG} {G : PyData → DEnv → Option DEnv} {T : EM Bool} {E : EM PyData} (hc : X.calm = true) (hN : X.N.Nodup) (hi : PI X tg iter (tMI Ps K F I)) (ok : BlkOk X.N X.env.scope scope own)
    (hg : ∀ (s : Shared) (H : Hp) (C : Addr) (cl : List (Str × Addr)) (fp : List Addr), PG (X.blk s H scope (compEnvC scope cl C X.env) fp) tg g) (og : OwnM g (own.map (·.2)) Ps G)
    (ht : ∀ (s : Shared) (H : Hp) (C : Addr) (cl : List (Str × Addr)) (fp : List Addr) (F' : Frm), PTs (X.blk s H scope (compEnvC scope cl C X.env) fp) ifs (tMT Ps K F' T))
    (he : ∀ (s : Shared) (H : Hp) (C : Addr) (cl : List (Str × Addr)) (fp : List Addr) (F' : Frm), PE (X.blk s H scope (compEnvC scope cl C X.env) fp) elt (tME Ps K F' E)) (hs : ∀ x, foldedSetIterable iter X.env x = pure x := by intro _; rfl) :
    PE X (.ListComp elt [⟨tg, iter, ifs, 0⟩] scope pos) (tME Ps K F (wLc ir I (own.map (·.2)) G T E)) :=
  pe_imp (pe_lc hc hN hi ok hg (fun s H C cl fp => pts_ex (ht s H C cl fp)) (fun s H C cl fp => pe_ex (he s H C cl fp)) hs) fun σ H Q h => lcm_imp og σ H Q h
/-- name = [..] on one line -/
theorem msm_setLc {i : Nat} {y : Str} {py : Pos} {elt tg iter : Expr} {ifs : List Expr} {scope : Scope} {own : List (Str × Nat)} {spos : Pos} {I : EM (List PyData)} {g : TG} {G : PyData → DEnv → Option DEnv} {T : EM Bool} {E : EM PyData} (hc : X.calm = true) (hN : X.N.Nodup) (hy : X.N[i]? = some y) (hyl : X.env.scope.names.lookup y = some .local)
    (hsw : swapsWith (.ListComp elt [⟨tg, iter, ifs, 0⟩] scope pos) (some (.Name y py)) spos.line X.env = pure true) (hi : PI X tg iter (tMI Ps K F I)) (ok : BlkOk X.N X.env.scope scope own)
    (hg : ∀ (s : Shared) (H : Hp) (C : Addr) (cl : List (Str × Addr)) (fp : List Addr), PG (X.blk s H scope (compEnvC scope cl C X.env) fp) tg g) (og : OwnM g (own.map (·.2)) Ps G)
    (ht : ∀ (s : Shared) (H : Hp) (C : Addr) (cl : List (Str × Addr)) (fp : List Addr) (F' : Frm), PTs (X.blk s H scope (compEnvC scope cl C X.env) fp) ifs (tMT Ps K F' T))
    (he : ∀ (s : Shared) (H : Hp) (C : Addr) (cl : List (Str × Addr)) (fp : List Addr) (F' : Frm), PE (X.blk s H scope (compEnvC scope cl C X.env) fp) elt (tME Ps K F' E)) (hs : ∀ x, foldedSetIterable iter X.env x = pure x := by intro _; rfl) :
    PS X (.Assign [.Name y py] (.ListComp elt [⟨tg, iter, ifs, 0⟩] scope pos) spos) (tM Ps K F (wSet i (wLc ir I (own.map (·.2)) G T E))) :=
  ps_imp (ps_setLc hc hN hy hyl hsw hi ok hg (fun s H C cl fp => pts_ex (ht s H C cl fp)) (fun s H C cl fp => pe_ex (he s H C cl fp)) hs) fun D σ H ⟨ρ, M, Φ, k, r, s, q⟩ =>
    lcm_imp og σ H (fun x H1 => gName i x σ H1 D.nx) ⟨ρ, M, [], _, k, r, s, fun d M' ⟨hm, φ⟩ v H' k' r' => q _ φ _ _ k' (r'.set hm)⟩
/-- x, y = a, b -/
def wPar (i j : Nat) (Ea Eb : EM PyData) : SM := fun ρ M Φ => Ea ρ M fun a M1 => Eb ρ M1 fun b M2 => (∀ p ∈ M2, p.1 ≠ i ∧ p.1 ≠ j) ∧ Φ (.nx ((ρ.set i (some a)).set j (some b)) M2)
theorem msm_par {i j : Nat} {x y : Str} {a b : Expr} {px py pt : Pos} {kt k2 pt2} {Ea Eb : EM PyData} (hc : X.calm = true) (hN : X.N.Nodup) (hi : X.N[i]? = some x) (hj : X.N[j]? = some y) (hij : i ≠ j)
    (hx : X.env.scope.names.lookup x = some .local) (hy : X.env.scope.names.lookup y = some .local) (ha : PE X a (tME Ps K F Ea)) (hb : PE X b (tME Ps K F Eb))
    (hw : swappedStores [.Tuple [.Name x px, .Name y py] kt pt] (.Tuple [a, b] k2 pt2) X.env = pure (some [x, y]) := by rfl)
    (hs : swapsWithSole [.Tuple [.Name x px, .Name y py] kt pt] (.Tuple [a, b] k2 pt2) pos.line X.env = pure false := by rfl)
    (h1 : starEach [a, b] X.env = (false, eval a X.env) :: starEach [b] X.env := by rfl) (h2 : starEach [b] X.env = (false, eval b X.env) :: starEach [] X.env := by rfl) :
    PS X (.Assign [.Tuple [.Name x px, .Name y py] kt pt] (.Tuple [a, b] k2 pt2) pos) (tM Ps K F (wPar i j Ea Eb)) :=
  ps_imp (ps_par hc hN hi hj hij hx hy (pa_cons ha (pa_cons hb pa_nil h2) h1) hw hs) fun D σ H ⟨ρ, M, Φ, k, r, s, q⟩ =>
    ⟨ρ, M, [], _, k, r, s, fun da M1 h v H1 k1 r1 => ⟨ρ, M1, [(v, da)], _, k1, r1, h, fun db M2 ⟨hm, φ⟩ u H2 k2 r2 => ⟨v, u, rfl, q _ φ _ _ k2 (((r2.sub (ts' := [(v, da), (u, db)]) fun t ht => by
      simp at ht ⊢
      rcases ht with h | h
      · exact .inr h
      · exact .inl h).set fun p hp => (hm p hp).1).set fun p hp => (hm p hp).2)⟩⟩⟩
/-- or of tests -/
def wOr (Ea Eb : EM Bool) : EM Bool := fun ρ M Φ => Ea ρ M fun b M1 => if b = true then Φ true M1 else Eb ρ M1 Φ
theorem mw_or1 {a : Expr} {T : EM Bool} (ha : PT X a (tMT Ps K F T)) : PW X (.BoolOp .Or [a] pos) (tMT Ps K F T) := pw_or1 ha
theorem mw_or {a b : Expr} {rest : List Expr} {Ea Eb : EM Bool} (ha : PT X a (tMT Ps K F Ea)) (hb : PW X (.BoolOp .Or (b :: rest) pos) (tMT Ps K F Eb)) : PW X (.BoolOp .Or (a :: b :: rest) pos) (tMT Ps K F (wOr Ea Eb)) :=
  pw_imp (pw_or ha hb) fun σ H Q ⟨ρ, M, ts, Φ, k, r, s, q⟩ => ⟨ρ, M, ts, _, k, r, s, fun b M1 h H1 k1 r1 => by
    cases b with
    | true => exact iteT (q _ _ h _ k1 r1)
    | false => exact iteF ⟨ρ, M1, ts, _, k1, r1, h, q⟩⟩
end
/-- a def that draws from the row (its first parameter) -/
theorem fn_dataR {P : Program} {w : World} {K : PySem.W.Frag} {mg : Str → Option Value} {base : Heap} {x : Str} {st : Stmt} {f : Addr} {fd : FuncData} {c : Addr} {dV : Value} (N : List Str) {ps : List Str} {k : Nat} {Ps : List Addr} {FF : List PyData → (PyData → Prop) → Prop} (S : SM)
    (hF : ∀ ds Φ, FF ds Φ → ds.length + 1 = ps.length ∧ 0 < N.length ∧ S (none :: (ds.map some ++ List.replicate (N.length - (ds.length + 1)) none)) [(0, .row)] fun o => ∃ d, o = .rt d [(0, .row)] ∧ Φ d)
    (Fn : Fd K x st f fd c dV) (Sc : FnScope N ps (defScope st))
    (hbody : ∀ (A : Around) (outer : List Env) (s : Shared) (H : Hp) (E : XK) (F : Frm), Room k (A.deeper (envOfC x (defScope st) s.heap.objs.size f (.ref c))) →
      PSs (cxOf CX0 P w K mg base N x (defScope st) f (.ref c) A outer s H E).nox (defBody st) (tM Ps K F S)) :
    FnOk P w K mg base CX0 (k + 1) f fd ps (spR K Ps FF) := by
  refine fd_ok Fn Sc (fun vs H Q E ⟨r, scr, us, ds, Φ, e, _, _, ra, hf, _⟩ => by rw [e, List.length_cons, ra.length]; exact (hF _ _ hf).1) fun A outer s H vs Q E hr ⟨r, scr, us, ds, Φ, e, ok, row, ra, hf, q⟩ => ?_
  subst e
  obtain ⟨hl, hn, hS⟩ := hF _ _ hf
  refine ⟨_, hbody A outer s H E ⟨H, H, fun _ => none, some r, scr⟩ hr, ?_⟩
  have e3 : L2.start N (.ref r :: us) = some (.ref r) :: (us.map some ++ List.replicate (N.length - (ds.length + 1)) none) := by
    unfold L2.start
    rw [List.map_cons, List.length_cons, ra.length]
    rfl
  rw [e3]
  have ea : ads (some (.ref r) :: (us.map some ++ List.replicate (N.length - (ds.length + 1)) none)) [(0, MEnt.row)] = [r] := rfl
  have rr : Rel (del H [r]) (us.map some ++ List.replicate (N.length - (ds.length + 1)) none) (ds.map some ++ List.replicate (N.length - (ds.length + 1)) none) := Rel.start ra _
  refine ⟨_, [(0, .row)], _, ok, ⟨fun _ _ _ e => e, fun _ _ _ e => e, fun p hp => ?_, fun p hp p' hp' _ => ?_, ?_, fun t ht => by simp at ht⟩, hS, fun o ⟨d, eo, φ⟩ => ?_⟩
  · rw [List.mem_singleton.mp hp]
    exact ⟨rfl, rfl, row⟩
  · rw [List.mem_singleton.mp hp, List.mem_singleton.mp hp']
  · rw [ea]
    refine ⟨by simp [rr.len], fun i d e => ?_⟩
    cases i with
    | zero => simp at e
    | succ i => exact rr.get i d (by simpa using e)
  · subst eo
    refine fun v σ' ρ' H' k' r' => ?_
    obtain ⟨g1, g2, g3⟩ := r'.ent _ List.mem_cons_self
    have g2 : some r = some (adr σ' 0) := g2
    have er : adr σ' 0 = r := (Option.some.inj g2).symm
    have ht := r'.tmp _ List.mem_cons_self
    have ea' : ads σ' [(0, MEnt.row)] = [r] := by show [adr σ' 0] = [r]; rw [er]
    rw [ea'] at ht
    have g3 : RowOk K H' (adr σ' 0) scr := g3
    rw [er] at g3
    exact q d φ v H' k' g3 r'.sm ht
end LL
set_option Elab.async false
set_option linter.all false
set_option maxRecDepth 100000
set_option maxHeartbeats 4000000
set_option autoImplicit false
/-! Defs with lists and dicts of their own, run (printed by gen3.py). -/
namespace LL
open PySem PySem.Spec PyProof.Rows L2
/-! _law_every_line -/
def own_law_every_line_0 : List (Str × Nat) := [("_law_other", 8)]
def own_law_every_line_1 : List (Str × Nat) := [("_law_one", 7)]
def X_law_every_line : XM :=
  (xThen (xAsg (oV 0) [1, 2] (gTupD 2 (gConsD (gN 1) (gConsD (gN 2) gNilD))))
    (xThen (xNewL 3)
    (xThen (xFor (o1 iR1 (oV 1)) [4] (gN 4) (xThen (xFor (o1 iEn (oV 2)) [5, 6] (gTupD 2 (gConsD (gN 5) (gConsD (gN 6) gNilD))) (xFor (o1 iR1 (oV 1)) [7] (gN 7) (xIf (o2 eqD (oV 6) (oC (.int 1))) (xApp 3 (oL mkT (oCons (oV 4) (oCons (oV 5) (oCons (oL mkT (oCons (oV 7) oNil)) oNil))))) (xCat 3 (oLc (o1 iR1 (oV 1)) (own_law_every_line_0.map (·.2)) (gN 8) oYes (oL mkT (oCons (oV 4) (oCons (oV 5) (oCons (oL mkT (oCons (oV 7) (oCons (oV 8) oNil))) oNil)))))))))
    (xCat 3 (oLc (o1 iR1 (oV 1)) (own_law_every_line_1.map (·.2)) (gN 7) (o2 neD (oV 7) (oV 4)) (oL mkT (oCons (oV 4) (oCons (oC .none) (oCons (oL mkT (oCons (oV 7) oNil)) oNil))))))))
    (xRetL 3))))
def W_law_every_line : SM :=
  (wThen (wAsg (wP (oV 0)) [1, 2] (gTupD 2 (gConsD (gN 1) (gConsD (gN 2) gNilD))))
    (wThen (wNewL 3)
    (wThen (wFor (o1 iR1 (oV 1)) [4] (gN 4) (wThen (wFor (o1 iEn (oV 2)) [5, 6] (gTupD 2 (gConsD (gN 5) (gConsD (gN 6) gNilD))) (wFor (o1 iR1 (oV 1)) [7] (gN 7) (wIf (wT (o2 eqD (oV 6) (oC (.int 1)))) (wApp 3 (oL mkT (oCons (oV 4) (oCons (oV 5) (oCons (oL mkT (oCons (oV 7) oNil)) oNil))))) (wCat 3 (oLc (o1 iR1 (oV 1)) (own_law_every_line_0.map (·.2)) (gN 8) oYes (oL mkT (oCons (oV 4) (oCons (oV 5) (oCons (oL mkT (oCons (oV 7) (oCons (oV 8) oNil))) oNil)))))))))
    (wCat 3 (oLc (o1 iR1 (oV 1)) (own_law_every_line_1.map (·.2)) (gN 7) (o2 neD (oV 7) (oV 4)) (oL mkT (oCons (oV 4) (oCons (oC .none) (oCons (oL mkT (oCons (oV 7) oNil)) oNil))))))))
    (wRetL 3))))
theorem snd_law_every_line : Snd X_law_every_line W_law_every_line := (snd_then snd_asg (snd_then snd_newL (snd_then (snd_for (snd_then (snd_for (snd_for (snd_if snd_app snd_cat))) snd_cat)) snd_retL)))
def F_law_every_line : List PyData → Option PyData := fnX 1 9 X_law_every_line
/-! _law_every_loss -/
def X_law_every_loss : XM :=
  (xThen (xNew1 2 (oL mkL (oCons (oL mkT oNil) oNil)))
    (xThen (xFor (o1 iR1 (oV 0)) [3] (gN 3) (xThen (xNewL 4)
    (xThen (xForL 2 [5] (gN 5) (xIf (o2 neD (oSl (oV 5) (oP (o1 negD (oV 1))) oNoP) (oRg2 (o2 subD (oV 3) (oV 1)) (oV 3))) (xApp 4 (o2 addD (oV 5) (oL mkT (oCons (oV 3) oNil)))) xNx))
    (xCat 2 (oV 4)))))
    (xRetL 2)))
def W_law_every_loss : SM :=
  (wThen (wNew1 2 (oL mkL (oCons (oL mkT oNil) oNil)))
    (wThen (wFor (o1 iR1 (oV 0)) [3] (gN 3) (wThen (wNewL 4)
    (wThen (wForL 2 [5] (gN 5) (wIf (wT (o2 neD (oSl (oV 5) (oP (o1 negD (oV 1))) oNoP) (oRg2 (o2 subD (oV 3) (oV 1)) (oV 3)))) (wApp 4 (o2 addD (oV 5) (oL mkT (oCons (oV 3) oNil)))) wNx))
    (wCat 2 (oV 4)))))
    (wRetL 2)))
theorem snd_law_every_loss : Snd X_law_every_loss W_law_every_loss := (snd_then snd_new1 (snd_then (snd_for (snd_then snd_newL (snd_then (snd_forL (snd_if snd_app snd_nx)) snd_cat))) snd_retL))
def F_law_every_loss : List PyData → Option PyData := fnX 2 6 X_law_every_loss
/-! all_moments -/
def X_all_moments : XM :=
  (xThen (xNew1 3 (oL mkL (oCons (o2 d1D (oL mkT (oCons (oL (fun as => F_first_terms (as ++ [])) (oCons (oV 0) oNil)) (oCons (oC (.int 0)) oNil))) (oL mkT oNil)) oNil)))
    (xThen (xFor (o1 iEn (oV 1)) [4, 5] (gTupD 2 (gConsD (gN 4) (gConsD (gN 5) gNilD))) (xThen (xNewD 6)
    (xThen (xFor (o1 iItD (o2 ixD (oV 3) (o1 negD (oC (.int 1))))) [7, 8, 9] (gTupD 2 (gConsD (gTupD 2 (gConsD (gN 7) (gConsD (gN 8) gNilD))) (gConsD (gN 9) gNilD))) (xThen (xKeep 6 (oL mkT (oCons (oL (fun as => F_done (as ++ [])) (oCons (oV 7) (oCons (oV 5) oNil))) (oCons (oC (.int 0)) oNil))) (oV 9))
    (xIf (o2 ltD (oV 8) (oV 2)) (xKeep 6 (oL mkT (oCons (oV 7) (oCons (o2 addD (oV 8) (oC (.int 1))) oNil))) (o2 addD (oV 9) (oL mkT (oCons (oV 4) oNil)))) xNx)))
    (xThen (xIfLen 6 3000 xNo xNx)
    (xAppD 3 6)))))
    (xRetL 3)))
def W_all_moments : SM :=
  (wThen (wNew1 3 (oL mkL (oCons (o2 d1D (oL mkT (oCons (oL (fun as => F_first_terms (as ++ [])) (oCons (oV 0) oNil)) (oCons (oC (.int 0)) oNil))) (oL mkT oNil)) oNil)))
    (wThen (wFor (o1 iEn (oV 1)) [4, 5] (gTupD 2 (gConsD (gN 4) (gConsD (gN 5) gNilD))) (wThen (wNewD 6)
    (wThen (wFor (o1 iItD (o2 ixD (oV 3) (o1 negD (oC (.int 1))))) [7, 8, 9] (gTupD 2 (gConsD (gTupD 2 (gConsD (gN 7) (gConsD (gN 8) gNilD))) (gConsD (gN 9) gNilD))) (wThen (wKeep 6 (oL mkT (oCons (oL (fun as => F_done (as ++ [])) (oCons (oV 7) (oCons (oV 5) oNil))) (oCons (oC (.int 0)) oNil))) (oV 9))
    (wIf (wT (o2 ltD (oV 8) (oV 2))) (wKeep 6 (oL mkT (oCons (oV 7) (oCons (o2 addD (oV 8) (oC (.int 1))) oNil))) (o2 addD (oV 9) (oL mkT (oCons (oV 4) oNil)))) wNx)))
    (wThen (wIf (wLen 6 3000) wNo wNx)
    (wAppD 3 6)))))
    (wRetL 3)))
theorem snd_all_moments : Snd X_all_moments W_all_moments := (snd_then snd_new1 (snd_then (snd_for (snd_then snd_newD (snd_then (snd_for (snd_then snd_keep (snd_if snd_keep snd_nx))) (snd_then (snd_ifLen snd_no snd_nx) snd_appD)))) snd_retL))
def F_all_moments : List PyData → Option PyData := fnX 3 10 X_all_moments
/-! repeated_ends -/
def X_repeated_ends : XM :=
  (xThen (xSet 3 (o2 d1D (oL (fun as => F_first_terms (as ++ [])) (oCons (oV 0) oNil)) (oC (.bool true))))
    (xThen (xFor (o1 iT (oV 1)) [4] (gN 4) (xThen (xNewD 5)
    (xThen (xFor (o1 iKyD (oV 3)) [6] (gN 6) (xFor (o1 iR1 (o2 addD (oV 2) (oC (.int 1)))) [7] (gN 7) (xThen (xSet 6 (oL (fun as => F_done (as ++ [])) (oCons (oV 6) (oCons (oV 4) oNil))))
    (xDset 5 (oV 6) (oC (.bool true))))))
    (xThen (xIfLen 5 3000 xNo xNx)
    (xFrz 3 5)))))
    (xRt (oV 3))))
def W_repeated_ends : SM :=
  (wThen (wSet 3 (wP (o2 d1D (oL (fun as => F_first_terms (as ++ [])) (oCons (oV 0) oNil)) (oC (.bool true)))))
    (wThen (wFor (o1 iT (oV 1)) [4] (gN 4) (wThen (wNewD 5)
    (wThen (wFor (o1 iKyD (oV 3)) [6] (gN 6) (wFor (o1 iR1 (o2 addD (oV 2) (oC (.int 1)))) [7] (gN 7) (wThen (wSet 6 (wP (oL (fun as => F_done (as ++ [])) (oCons (oV 6) (oCons (oV 4) oNil)))))
    (wDset 5 (oV 6) (oC (.bool true))))))
    (wThen (wIf (wLen 5 3000) wNo wNx)
    (wFrz 3 5)))))
    (wRt (wP (oV 3)))))
theorem snd_repeated_ends : Snd X_repeated_ends W_repeated_ends := (snd_then snd_set (snd_then (snd_for (snd_then snd_newD (snd_then (snd_for (snd_for (snd_then snd_set snd_dset))) (snd_then (snd_ifLen snd_no snd_nx) snd_frz)))) snd_rt))
def F_repeated_ends : List PyData → Option PyData := fnX 3 8 X_repeated_ends
end LL
set_option Elab.async false
set_option linter.all false
set_option maxRecDepth 100000
set_option maxHeartbeats 4000000
set_option autoImplicit false
/-! Their walks (printed by gen3.py). -/
namespace LL
open PySem PySem.Spec PyProof.Rows L2
variable [Wd]
section
variable {P : Program} {w : World} {K : PySem.W.Frag} {mg : Str → Option Value} {base : Heap} {Ps : List Addr}
/-! _law_every_line -/
theorem sc_law_every_line : FnScope N_law_every_line ["_law_machine_here"] (defScope st_law_every_line) := ⟨rfl, rfl, rfl, by decide +kernel, rfl, by decide +kernel, by decide +kernel⟩
theorem bk_law_every_line_0 : BlkOk N_law_every_line (defScope st_law_every_line) ({ kind := PySem.ScopeKind.function, names := [(PySem.Str.ofString ".0", PySem.NameKind.local), (PySem.Str.ofString "_law_other", PySem.NameKind.local), (PySem.Str.ofString "_law_cell", PySem.NameKind.free), (PySem.Str.ofString "_law_function", PySem.NameKind.free), (PySem.Str.ofString "_law_one", PySem.NameKind.free)], isGenerator := false, isCoroutine := false, more := [] } : Scope) own_law_every_line_0 := ⟨rfl, by decide +kernel, by decide +kernel, by decide +kernel, by decide +kernel⟩
theorem bk_law_every_line_1 : BlkOk N_law_every_line (defScope st_law_every_line) ({ kind := PySem.ScopeKind.function, names := [(PySem.Str.ofString ".0", PySem.NameKind.local), (PySem.Str.ofString "_law_one", PySem.NameKind.local), (PySem.Str.ofString "_law_cell", PySem.NameKind.free)], isGenerator := false, isCoroutine := false, more := [] } : Scope) own_law_every_line_1 := ⟨rfl, by decide +kernel, by decide +kernel, by decide +kernel, by decide +kernel⟩
theorem ok_law_every_line (G : Glo mg) (hw : w = Wd.w) (D_law_every_line : DefAt K mg "_law_every_line" st_law_every_line) : FnOk P w K mg base CX0 1 D_law_every_line.f D_law_every_line.fd ["_law_machine_here"] (spD Ps F_law_every_line) :=
  fn_dataM (k := 0) N_law_every_line W_law_every_line (fnX_ok snd_law_every_line) D_law_every_line.ok sc_law_every_line fun A outer s H E hr => by
    have hro : (⟨H, H, fun _ => none, none, 0⟩ : Frm).row = none := rfl
    have hpr : (⟨H, H, fun _ => none, none, 0⟩ : Frm).prot = fun _ => none := rfl
    conv => arg 2; whnf
    exact (mss_cons (msm_asg (me_pure rfl (pd_name 0 (pv 0))) (pg_tup rfl (pgs_cons (pg_name (i := 1) sc_law_every_line.nd rfl (by first | exact Or.inl rfl | exact Or.inr rfl)) (pgs_cons (pg_name (i := 2) sc_law_every_line.nd rfl (by first | exact Or.inl rfl | exact Or.inr rfl)) pgs_nil))) (ownm_tup (ownm_cons (ownm_name (by decide)) (ownm_cons (ownm_name (by decide)) ownm_nil))))
    (mss_cons (msm_newL (i := 3) hro sc_law_every_line.nd rfl (by first | exact Or.inl rfl | exact Or.inr rfl))
    (mss_cons (msm_for PassesOwn.never rfl (pii_rg1 rfl G.range (pd_name 1 (pv 1))) (pg_name (i := 4) sc_law_every_line.nd rfl (by first | exact Or.inl rfl | exact Or.inr rfl)) (ownm_name (by decide)) (fun F hro1 hpr1 => have hro := hro1.trans hro; have hpr := hpr1.trans hpr; (mss_cons (msm_for PassesOwn.never rfl (pii_enum rfl G.enumerate (pd_name 2 (pv 2))) (pg_tup rfl (pgs_cons (pg_name (i := 5) sc_law_every_line.nd rfl (by first | exact Or.inl rfl | exact Or.inr rfl)) (pgs_cons (pg_name (i := 6) sc_law_every_line.nd rfl (by first | exact Or.inl rfl | exact Or.inr rfl)) pgs_nil))) (ownm_tup (ownm_cons (ownm_name (by decide)) (ownm_cons (ownm_name (by decide)) ownm_nil))) (fun F hro1 hpr1 => have hro := hro1.trans hro; have hpr := hpr1.trans hpr; (mss_one (msm_for PassesOwn.never rfl (pii_rg1 rfl G.range (pd_name 1 (pv 1))) (pg_name (i := 7) sc_law_every_line.nd rfl (by first | exact Or.inl rfl | exact Or.inr rfl)) (ownm_name (by decide)) (fun F hro1 hpr1 => have hro := hro1.trans hro; have hpr := hpr1.trans hpr; (mss_one (msm_if (mt_pure (pdt_cm (cd_eq (u64 hr)) (pd_name 6 (pv 6)) pd_int rfl)) (mss_one (msm_app hro (pv 3) (pd_tup (pda_cons (pd_name 4 (pv 4)) (pda_cons (pd_name 5 (pv 5)) (pda_cons (pd_tup (pda_cons (pd_name 7 (pv 7)) pda_nil)) pda_nil)))))) (mss_one (msm_cat (i := 3) hro sc_law_every_line.nd rfl (by first | exact Or.inl rfl | exact Or.inr rfl) (pv 3) (pd_lc rfl sc_law_every_line.nd (pid_rg1 rfl G.range (pd_name 1 (pv 1))) bk_law_every_line_0 (fun _ _ _ _ _ => (pg_name (i := 8) sc_law_every_line.nd rfl (by first | exact Or.inl rfl | exact Or.inr rfl))) (own_name (by decide)) (fun _ _ _ _ _ => ptsd_nil) (fun _ _ _ _ _ => (pd_tup (pda_cons (pd_name 4 (pv 4)) (pda_cons (pd_name 5 (pv 5)) (pda_cons (pd_tup (pda_cons (pd_name 7 (pv 7)) (pda_cons (pd_name 8 (pv 8)) pda_nil))) pda_nil)))))))))))))))
    (mss_one (msm_cat (i := 3) hro sc_law_every_line.nd rfl (by first | exact Or.inl rfl | exact Or.inr rfl) (pv 3) (pd_lc rfl sc_law_every_line.nd (pid_rg1 rfl G.range (pd_name 1 (pv 1))) bk_law_every_line_1 (fun _ _ _ _ _ => (pg_name (i := 7) sc_law_every_line.nd rfl (by first | exact Or.inl rfl | exact Or.inr rfl))) (own_name (by decide)) (fun _ _ _ _ _ => (ptsd_one (pdt_cm (cd_ne (u64 hr)) (pd_name 7 (pv 7)) (pd_name 4 (pv 4)) rfl))) (fun _ _ _ _ _ => (pd_tup (pda_cons (pd_name 4 (pv 4)) (pda_cons pd_non (pda_cons (pd_tup (pda_cons (pd_name 7 (pv 7)) pda_nil)) pda_nil)))))))))))
    (mss_one (msm_retL (pv 3))))))
/-! _law_every_loss -/
theorem sc_law_every_loss : FnScope N_law_every_loss ["_law_size", "_law_many"] (defScope st_law_every_loss) := ⟨rfl, rfl, rfl, by decide +kernel, rfl, by decide +kernel, by decide +kernel⟩
theorem ok_law_every_loss (G : Glo mg) (hw : w = Wd.w) (D_law_every_loss : DefAt K mg "_law_every_loss" st_law_every_loss) : FnOk P w K mg base CX0 1 D_law_every_loss.f D_law_every_loss.fd ["_law_size", "_law_many"] (spD Ps F_law_every_loss) :=
  fn_dataM (k := 0) N_law_every_loss W_law_every_loss (fnX_ok snd_law_every_loss) D_law_every_loss.ok sc_law_every_loss fun A outer s H E hr => by
    have hro : (⟨H, H, fun _ => none, none, 0⟩ : Frm).row = none := rfl
    have hpr : (⟨H, H, fun _ => none, none, 0⟩ : Frm).prot = fun _ => none := rfl
    conv => arg 2; whnf
    exact (mss_cons (msm_new1 (i := 2) hro sc_law_every_loss.nd rfl (by first | exact Or.inl rfl | exact Or.inr rfl) (pda_cons (pd_tup pda_nil) pda_nil))
    (mss_cons (msm_for PassesOwn.never rfl (pii_rg1 rfl G.range (pd_name 0 (pv 0))) (pg_name (i := 3) sc_law_every_loss.nd rfl (by first | exact Or.inl rfl | exact Or.inr rfl)) (ownm_name (by decide)) (fun F hro1 hpr1 => have hro := hro1.trans hro; have hpr := hpr1.trans hpr; (mss_cons (msm_newL (i := 4) hro sc_law_every_loss.nd rfl (by first | exact Or.inl rfl | exact Or.inr rfl))
    (mss_cons (msm_forL (i := 2) hpr PassesOwn.never rfl (pv 2) (pg_name (i := 5) sc_law_every_loss.nd rfl (by first | exact Or.inl rfl | exact Or.inr rfl)) (ownm_name (by decide)) (fun F hro1 => have hro := hro1.trans hro; (mss_one (msm_if (mt_pure (pdt_cm (cd_ne (u64 hr)) (pd_slice (pd_name 5 (pv 5)) (pdo_some (pd_neg (pd_name 1 (pv 1)))) pdo_none) (pd_rg2 rfl rfl G.tuple rfl G.range (pd_sub (pd_name 3 (pv 3)) (pd_name 1 (pv 1))) (pd_name 3 (pv 3))) rfl)) (mss_one (msm_app hro (pv 4) (pd_add (pd_name 5 (pv 5)) (pd_tup (pda_cons (pd_name 3 (pv 3)) pda_nil))))) mss_nil))))
    (mss_one (msm_cat (i := 2) hro sc_law_every_loss.nd rfl (by first | exact Or.inl rfl | exact Or.inr rfl) (pv 2) (pd_name 4 (pv 4))))))))
    (mss_one (msm_retL (pv 2)))))
/-! all_moments -/
theorem sc_all_moments : FnScope N_all_moments ["machine", "program", "many"] (defScope st_all_moments) := ⟨rfl, rfl, rfl, by decide +kernel, rfl, by decide +kernel, by decide +kernel⟩
theorem ok_all_moments (G : Glo mg) (hw : w = Wd.w) (D_all_moments : DefAt K mg "all_moments" st_all_moments) (D_first_terms : DefAt K mg "first_terms" st_first_terms) (h_first_terms : FnOk P w K mg base CX0 1 D_first_terms.f D_first_terms.fd ["machine"] (spD Ps F_first_terms)) (D_done : DefAt K mg "done" st_done) (h_done : FnOk P w K mg base CX0 13 D_done.f D_done.fd ["held", "line"] (spD Ps F_done)) (D_keep : DefAt K mg "keep" st_keep) (h_keep : FnOk P w K mg base CX0 1 D_keep.f D_keep.fd ["later", "pair", "losses"] (spKeep Ps)) : FnOk P w K mg base CX0 14 D_all_moments.f D_all_moments.fd ["machine", "program", "many"] (spD Ps F_all_moments) :=
  fn_dataM (k := 13) N_all_moments W_all_moments (fnX_ok snd_all_moments) D_all_moments.ok sc_all_moments fun A outer s H E hr => by
    have hro : (⟨H, H, fun _ => none, none, 0⟩ : Frm).row = none := rfl
    have hpr : (⟨H, H, fun _ => none, none, 0⟩ : Frm).prot = fun _ => none := rfl
    conv => arg 2; whnf
    exact (mss_cons (msm_new1 (i := 3) hro sc_all_moments.nd rfl (by first | exact Or.inl rfl | exact Or.inr rfl) (pda_cons (pd_dict1 hw (u8 hr) (pd_tup (pda_cons (pd_call h_first_terms (hr.mono (by omega)) rfl D_first_terms.m D_first_terms.ok.kp (bi_first_terms D_first_terms) .nil (fun _ => .nil) (pda_cons (pd_name 0 (pv 0)) pda_nil)) (pda_cons pd_int pda_nil))) (pd_tup pda_nil)) pda_nil))
    (mss_cons (msm_for PassesOwn.never rfl (pii_enum rfl G.enumerate (pd_name 1 (pv 1))) (pg_tup rfl (pgs_cons (pg_name (i := 4) sc_all_moments.nd rfl (by first | exact Or.inl rfl | exact Or.inr rfl)) (pgs_cons (pg_name (i := 5) sc_all_moments.nd rfl (by first | exact Or.inl rfl | exact Or.inr rfl)) pgs_nil))) (ownm_tup (ownm_cons (ownm_name (by decide)) (ownm_cons (ownm_name (by decide)) ownm_nil))) (fun F hro1 hpr1 => have hro := hro1.trans hro; have hpr := hpr1.trans hpr; (mss_cons (msm_newD (i := 6) hro hw sc_all_moments.nd rfl (by first | exact Or.inl rfl | exact Or.inr rfl))
    (mss_cons (msm_for PassesOwn.never rfl (pii_items hw (pd_ix (pd_name 3 (pv 3)) (pd_neg pd_int))) (pg_tup rfl (pgs_cons (pg_tup rfl (pgs_cons (pg_name (i := 7) sc_all_moments.nd rfl (by first | exact Or.inl rfl | exact Or.inr rfl)) (pgs_cons (pg_name (i := 8) sc_all_moments.nd rfl (by first | exact Or.inl rfl | exact Or.inr rfl)) pgs_nil))) (pgs_cons (pg_name (i := 9) sc_all_moments.nd rfl (by first | exact Or.inl rfl | exact Or.inr rfl)) pgs_nil))) (ownm_tup (ownm_cons (ownm_tup (ownm_cons (ownm_name (by decide)) (ownm_cons (ownm_name (by decide)) ownm_nil))) (ownm_cons (ownm_name (by decide)) ownm_nil))) (fun F hro1 hpr1 => have hro := hro1.trans hro; have hpr := hpr1.trans hpr; (mss_cons (msm_keep hro h_keep (hr.mono (by omega)) rfl D_keep.m D_keep.ok.kp (bi_keep D_keep) (pv 6) (pd_tup (pda_cons (pd_call h_done (hr.mono (by omega)) rfl D_done.m D_done.ok.kp (bi_done D_done) .nil (fun _ => .nil) (pda_cons (pd_name 7 (pv 7)) (pda_cons (pd_name 5 (pv 5)) pda_nil))) (pda_cons pd_int pda_nil))) (pd_name 9 (pv 9)))
    (mss_one (msm_if (mt_pure (pdt_cm cd_lt (pd_name 8 (pv 8)) (pd_name 2 (pv 2)) rfl)) (mss_one (msm_keep hro h_keep (hr.mono (by omega)) rfl D_keep.m D_keep.ok.kp (bi_keep D_keep) (pv 6) (pd_tup (pda_cons (pd_name 7 (pv 7)) (pda_cons (pd_add (pd_name 8 (pv 8)) pd_int) pda_nil))) (pd_add (pd_name 9 (pv 9)) (pd_tup (pda_cons (pd_name 4 (pv 4)) pda_nil))))) mss_nil)))))
    (mss_cons (msm_if (mt_len hw (pv 6) G.len G.c_MOST_PAIRS) mss_no mss_nil)
    (mss_one (msm_appD hro (pv 3) (pv 6))))))))
    (mss_one (msm_retL (pv 3)))))
/-! repeated_ends -/
theorem sc_repeated_ends : FnScope N_repeated_ends ["machine", "program", "many"] (defScope st_repeated_ends) := ⟨rfl, rfl, rfl, by decide +kernel, rfl, by decide +kernel, by decide +kernel⟩
theorem ok_repeated_ends (G : Glo mg) (hw : w = Wd.w) (D_repeated_ends : DefAt K mg "repeated_ends" st_repeated_ends) (D_first_terms : DefAt K mg "first_terms" st_first_terms) (h_first_terms : FnOk P w K mg base CX0 1 D_first_terms.f D_first_terms.fd ["machine"] (spD Ps F_first_terms)) (D_done : DefAt K mg "done" st_done) (h_done : FnOk P w K mg base CX0 13 D_done.f D_done.fd ["held", "line"] (spD Ps F_done)) : FnOk P w K mg base CX0 14 D_repeated_ends.f D_repeated_ends.fd ["machine", "program", "many"] (spD Ps F_repeated_ends) :=
  fn_dataM (k := 13) N_repeated_ends W_repeated_ends (fnX_ok snd_repeated_ends) D_repeated_ends.ok sc_repeated_ends fun A outer s H E hr => by
    have hro : (⟨H, H, fun _ => none, none, 0⟩ : Frm).row = none := rfl
    have hpr : (⟨H, H, fun _ => none, none, 0⟩ : Frm).prot = fun _ => none := rfl
    conv => arg 2; whnf
    exact (mss_cons (msm_set (i := 3) sc_repeated_ends.nd rfl (by first | exact Or.inl rfl | exact Or.inr rfl) (me_pure rfl (pd_dict1 hw (u8 hr) (pd_call h_first_terms (hr.mono (by omega)) rfl D_first_terms.m D_first_terms.ok.kp (bi_first_terms D_first_terms) .nil (fun _ => .nil) (pda_cons (pd_name 0 (pv 0)) pda_nil)) pd_bl)))
    (mss_cons (msm_for PassesOwn.never rfl (pii_tup (pd_name 1 (pv 1))) (pg_name (i := 4) sc_repeated_ends.nd rfl (by first | exact Or.inl rfl | exact Or.inr rfl)) (ownm_name (by decide)) (fun F hro1 hpr1 => have hro := hro1.trans hro; have hpr := hpr1.trans hpr; (mss_cons (msm_newD (i := 5) hro hw sc_repeated_ends.nd rfl (by first | exact Or.inl rfl | exact Or.inr rfl))
    (mss_cons (msm_for PassesOwn.never rfl (pii_keys hw (pd_name 3 (pv 3))) (pg_name (i := 6) sc_repeated_ends.nd rfl (by first | exact Or.inl rfl | exact Or.inr rfl)) (ownm_name (by decide)) (fun F hro1 hpr1 => have hro := hro1.trans hro; have hpr := hpr1.trans hpr; (mss_one (msm_for PassesOwn.never rfl (pii_rg1 rfl G.range (pd_add (pd_name 2 (pv 2)) pd_int)) (pg_name (i := 7) sc_repeated_ends.nd rfl (by first | exact Or.inl rfl | exact Or.inr rfl)) (ownm_name (by decide)) (fun F hro1 hpr1 => have hro := hro1.trans hro; have hpr := hpr1.trans hpr; (mss_cons (msm_set (i := 6) sc_repeated_ends.nd rfl (by first | exact Or.inl rfl | exact Or.inr rfl) (me_pure rfl (pd_call h_done (hr.mono (by omega)) rfl D_done.m D_done.ok.kp (bi_done D_done) .nil (fun _ => .nil) (pda_cons (pd_name 6 (pv 6)) (pda_cons (pd_name 4 (pv 4)) pda_nil)))))
    (mss_one (msm_dset hro hw (u9 hr) (pv 5) (pd_name 6 (pv 6)) pd_bl))))))))
    (mss_cons (msm_if (mt_len hw (pv 5) G.len G.c_MOST_PAIRS) mss_no mss_nil)
    (mss_one (msm_frz (i := 3) (j := 5) hro sc_repeated_ends.nd rfl (by first | exact Or.inl rfl | exact Or.inr rfl) (pv 5))))))))
    (mss_one (msm_ret (me_pure rfl (pd_name 3 (pv 3)))))))
end
end LL
set_option Elab.async false
set_option linter.all false
set_option maxRecDepth 100000
set_option maxHeartbeats 4000000
set_option autoImplicit false
/-! More defs as functions on data (printed by gen2.py). -/
namespace LL
open PySem PySem.Spec PyProof.Rows L2
/-! sure_terms -/
def own_sure_terms_0 : List (Str × Nat) := [("every", 4)]
def own_sure_terms_1 : List (Str × Nat) := [("cell", 5)]
def S_sure_terms : DEnv → Option Out :=
  (sThen (sEx (oL (fun as => F_need_machine (as ++ [])) (oCons (oV 0) oNil)))
    (sThen (sEx (oL (fun as => F_need_program (as ++ [])) (oCons (oV 0) (oCons (oV 1) oNil))))
    (sThen (sEx (oL (fun as => F_need_many (as ++ [])) (oCons (oV 2) oNil)))
    (sThen (sA (oL (fun as => F_all_moments (as ++ [])) (oCons (oV 0) (oCons (oV 1) (oCons (oV 2) oNil)))) (gN 3))
    (sRt (o1 tupD (oLc (o1 iL (oV 3)) (own_sure_terms_0.map (·.2)) (gN 4) oYes (o1 tupD (oLc (o1 iR1 (o2 ixD (oV 0) (oC (.int 0)))) (own_sure_terms_1.map (·.2)) (gN 5) oYes (oL (fun as => F_sure_of (as ++ [])) (oCons (oV 4) (oCons (oV 5) oNil))))))))))))
def F_sure_terms : List PyData → Option PyData := fnD 3 6 S_sure_terms
/-! least_harm -/
def own_least_harm_0 : List (Str × Nat) := [("held", 6), ("_", 7), ("losses", 8)]
def S_least_harm : DEnv → Option Out :=
  (sThen (sA (o2 ixD (oL (fun as => F_all_moments (as ++ [])) (oCons (oV 0) (oCons (oV 1) (oCons (oV 2) oNil)))) (o1 negD (oC (.int 1)))) (gN 4))
    (sThen (sA (oLc (o1 iItD (oV 4)) (own_least_harm_0.map (·.2)) (gTupD 2 (gConsD (gTupD 2 (gConsD (gN 6) (gConsD (gN 7) gNilD))) (gConsD (gN 8) gNilD))) (oNot (o1 asB (oL (fun as => F_fulfilled (as ++ [])) (oCons (oV 6) (oCons (oV 3) oNil))))) (oV 8)) (gN 5))
    (sRt (oIf (o1 truD (oV 5)) (o1 (mkD fun d => (oL mkT (oCons (o1 lenD (oV 0)) (oCons (oV 0) oNil))) [some d]) (oV 5)) (oC .none)))))
def F_least_harm : List PyData → Option PyData := fnD 4 9 S_least_harm
/-! is_proof -/
def S_is_proof : DEnv → Option Out :=
  (sThen (sEx (oL (fun as => F_need_wished (as ++ [])) (oCons (oV 0) (oCons (oV 1) (oCons (oV 2) (oCons (oV 3) oNil))))))
    (sRt (oB (o2 isD (oL (fun as => F_least_harm (as ++ [])) (oCons (oV 0) (oCons (oV 1) (oCons (oV 2) (oCons (oV 3) oNil))))) (oC .none)))))
def F_is_proof : List PyData → Option PyData := fnD 4 4 S_is_proof
/-! harm -/
def S_harm : DEnv → Option Out :=
  (sThen (sEx (oL (fun as => F_need_wished (as ++ [])) (oCons (oV 0) (oCons (oV 1) (oCons (oV 2) (oCons (oV 3) oNil))))))
    (sRt (oL (fun as => F_least_harm (as ++ [])) (oCons (oV 0) (oCons (oV 1) (oCons (oV 2) (oCons (oV 3) oNil)))))))
def F_harm : List PyData → Option PyData := fnD 4 4 S_harm
/-! shows_harm -/
def S_shows_harm : DEnv → Option Out :=
  (sThen (sEx (oL (fun as => F_need_wished (as ++ [])) (oCons (oV 0) (oCons (oV 1) (oCons (oV 2) (oCons (oV 3) oNil))))))
    (sThen (sA (oL (fun as => F_least_harm (as ++ [])) (oCons (oV 0) (oCons (oV 1) (oCons (oV 2) (oCons (oV 3) oNil))))) (gN 5))
    (sThen (sIf (oOr (o2 isD (oV 5) (oC .none)) (o2 isD (oV 4) (oC .none))) (sRt (oB (oAnd (o2 isD (oV 5) (oC .none)) (o2 isD (oV 4) (oC .none))))) sNx)
    (sThen (sIf (oOr (oNot (o1 asB (oL (fun as => F_are_losses (as ++ [])) (oCons (oV 1) (oCons (oV 2) (oCons (oV 4) oNil)))))) (o2 neD (o1 lenD (oV 4)) (o1 lenD (oV 5)))) (sRt (oC (.bool false))) sNx)
    (sRt (oB (oNot (o1 asB (oL (fun as => F_fulfilled (as ++ [])) (oCons (oL (fun as => F_lost_behind (as ++ [])) (oCons (oL (fun as => F_first_terms (as ++ [])) (oCons (oV 0) oNil)) (oCons (oV 1) (oCons (oV 4) oNil)))) (oCons (oV 3) oNil)))))))))))
def F_shows_harm : List PyData → Option PyData := fnD 5 6 S_shows_harm
/-! is_repeat_proof -/
def own_is_repeat_proof_0 : List (Str × Nat) := [("held", 4)]
def S_is_repeat_proof : DEnv → Option Out :=
  (sThen (sEx (oL (fun as => F_need_wished (as ++ [])) (oCons (oV 0) (oCons (oV 1) (oCons (oV 2) (oCons (oV 3) oNil))))))
    (sRt (oB (oQu true (o1 iKyD (oL (fun as => F_repeated_ends (as ++ [])) (oCons (oV 0) (oCons (oV 1) (oCons (oV 2) oNil))))) (own_is_repeat_proof_0.map (·.2)) (gN 4) (oL (fun as => F_fulfilled (as ++ [])) (oCons (oV 4) (oCons (oV 3) oNil)))))))
def F_is_repeat_proof : List PyData → Option PyData := fnD 4 5 S_is_repeat_proof
end LL
set_option Elab.async false
set_option linter.all false
set_option maxRecDepth 100000
set_option maxHeartbeats 4000000
set_option autoImplicit false
/-! More walks by data (printed by gen2.py). -/
namespace LL
open PySem PySem.Spec PyProof.Rows L2
variable [Wd]
section
variable {P : Program} {w : World} {K : PySem.W.Frag} {mg : Str → Option Value} {base : Heap} {Ps : List Addr}
/-! sure_terms -/
theorem sc_sure_terms : FnScope N_sure_terms ["machine", "program", "many"] (defScope st_sure_terms) := ⟨rfl, rfl, rfl, by decide +kernel, rfl, by decide +kernel, by decide +kernel⟩
theorem bk_sure_terms_0 : BlkOk N_sure_terms (defScope st_sure_terms) ({ kind := PySem.ScopeKind.function, names := [(PySem.Str.ofString ".0", PySem.NameKind.local), (PySem.Str.ofString "every", PySem.NameKind.cell), (PySem.Str.ofString "tuple", PySem.NameKind.globalImplicit), (PySem.Str.ofString "range", PySem.NameKind.globalImplicit), (PySem.Str.ofString "machine", PySem.NameKind.free)], isGenerator := false, isCoroutine := false, more := [] } : Scope) own_sure_terms_0 := ⟨rfl, by decide +kernel, by decide +kernel, by decide +kernel, by decide +kernel⟩
theorem bk_sure_terms_1 : BlkOk N_sure_terms (relS ({ kind := PySem.ScopeKind.function, names := [(PySem.Str.ofString ".0", PySem.NameKind.local), (PySem.Str.ofString "every", PySem.NameKind.cell), (PySem.Str.ofString "tuple", PySem.NameKind.globalImplicit), (PySem.Str.ofString "range", PySem.NameKind.globalImplicit), (PySem.Str.ofString "machine", PySem.NameKind.free)], isGenerator := false, isCoroutine := false, more := [] } : Scope) (defScope st_sure_terms)) ({ kind := PySem.ScopeKind.function, names := [(PySem.Str.ofString ".0", PySem.NameKind.local), (PySem.Str.ofString "cell", PySem.NameKind.local), (PySem.Str.ofString "sure_of", PySem.NameKind.globalImplicit), (PySem.Str.ofString "every", PySem.NameKind.free)], isGenerator := false, isCoroutine := false, more := [] } : Scope) own_sure_terms_1 := ⟨rfl, by decide +kernel, by decide +kernel, by decide +kernel, by decide +kernel⟩
theorem ok_sure_terms (G : Glo mg) (hw : w = Wd.w) (D_sure_terms : DefAt K mg "sure_terms" st_sure_terms) (D_need_machine : DefAt K mg "need_machine" st_need_machine) (h_need_machine : FnOk P w K mg base CX0 3 D_need_machine.f D_need_machine.fd ["value"] (spD Ps F_need_machine)) (D_need_program : DefAt K mg "need_program" st_need_program) (h_need_program : FnOk P w K mg base CX0 4 D_need_program.f D_need_program.fd ["machine", "value"] (spD Ps F_need_program)) (D_need_many : DefAt K mg "need_many" st_need_many) (h_need_many : FnOk P w K mg base CX0 2 D_need_many.f D_need_many.fd ["value"] (spD Ps F_need_many)) (D_all_moments : DefAt K mg "all_moments" st_all_moments) (h_all_moments : FnOk P w K mg base CX0 20 D_all_moments.f D_all_moments.fd ["machine", "program", "many"] (spD Ps F_all_moments)) (D_sure_of : DefAt K mg "sure_of" st_sure_of) (h_sure_of : FnOk P w K mg base CX0 1 D_sure_of.f D_sure_of.fd ["every", "cell"] (spD Ps F_sure_of)) : FnOk P w K mg base CX0 21 D_sure_terms.f D_sure_terms.fd ["machine", "program", "many"] (spD Ps F_sure_terms) :=
  fn_data2 (k := 20) N_sure_terms 3 6 S_sure_terms rfl rfl rfl D_sure_terms.ok sc_sure_terms fun A outer s H E hr => by
    conv => arg 2; whnf
    exact (pssd_cons (psd_ex (pd_call h_need_machine (hr.mono (by omega)) rfl D_need_machine.m D_need_machine.ok.kp (bi_need_machine D_need_machine) .nil (fun _ => .nil) (pda_cons (pd_name 0 (pv 0)) pda_nil)))
    (pssd_cons (psd_ex (pd_call h_need_program (hr.mono (by omega)) rfl D_need_program.m D_need_program.ok.kp (bi_need_program D_need_program) .nil (fun _ => .nil) (pda_cons (pd_name 0 (pv 0)) (pda_cons (pd_name 1 (pv 1)) pda_nil))))
    (pssd_cons (psd_ex (pd_call h_need_many (hr.mono (by omega)) rfl D_need_many.m D_need_many.ok.kp (bi_need_many D_need_many) .nil (fun _ => .nil) (pda_cons (pd_name 2 (pv 2)) pda_nil)))
    (pssd_cons (psd_set (i := 3) sc_sure_terms.nd rfl (by first | exact Or.inl rfl | exact Or.inr rfl) (pd_call h_all_moments (hr.mono (by omega)) rfl D_all_moments.m D_all_moments.ok.kp (bi_all_moments D_all_moments) .nil (fun _ => .nil) (pda_cons (pd_name 0 (pv 0)) (pda_cons (pd_name 1 (pv 1)) (pda_cons (pd_name 2 (pv 2)) pda_nil)))))
    (pssd_one (psd_ret (pd_tuple rfl G.tuple (pd_lc rfl sc_sure_terms.nd (pid_lst (pd_name 3 (pv 3))) bk_sure_terms_0 (fun _ _ _ _ _ => (pg_name (i := 4) sc_sure_terms.nd rfl (by first | exact Or.inl rfl | exact Or.inr rfl))) (own_name (by decide)) (fun _ _ _ _ _ => ptsd_nil) (fun _ _ _ _ _ => (pd_tuple rfl G.tuple (pd_lc rfl sc_sure_terms.nd (pid_rg1 rfl G.range (pd_ix (pd_name 0 (pv 0)) pd_int)) bk_sure_terms_1 (fun _ _ _ _ _ => (pg_name (i := 5) sc_sure_terms.nd rfl (by first | exact Or.inl rfl | exact Or.inr rfl))) (own_name (by decide)) (fun _ _ _ _ _ => ptsd_nil) (fun _ _ _ _ _ => (pd_call h_sure_of (hr.mono (by omega)) rfl D_sure_of.m D_sure_of.ok.kp (bi_sure_of D_sure_of) .nil (fun _ => .nil) (pda_cons (pd_name 4 (pv 4)) (pda_cons (pd_name 5 (pv 5)) pda_nil)))))))))))))))
/-! least_harm -/
theorem sc_least_harm : FnScope N_least_harm ["machine", "program", "many", "wishes"] (defScope st_least_harm) := ⟨rfl, rfl, rfl, by decide +kernel, rfl, by decide +kernel, by decide +kernel⟩
theorem bk_least_harm_0 : BlkOk N_least_harm (defScope st_least_harm) ({ kind := PySem.ScopeKind.function, names := [(PySem.Str.ofString ".0", PySem.NameKind.local), (PySem.Str.ofString "held", PySem.NameKind.local), (PySem.Str.ofString "_", PySem.NameKind.local), (PySem.Str.ofString "losses", PySem.NameKind.local), (PySem.Str.ofString "fulfilled", PySem.NameKind.globalImplicit), (PySem.Str.ofString "wishes", PySem.NameKind.free)], isGenerator := false, isCoroutine := false, more := [] } : Scope) own_least_harm_0 := ⟨rfl, by decide +kernel, by decide +kernel, by decide +kernel, by decide +kernel⟩
theorem sc_lam_least_harm : FnScope ["losses"] ["losses"] ({ kind := PySem.ScopeKind.function, names := [(PySem.Str.ofString "losses", PySem.NameKind.local), (PySem.Str.ofString "len", PySem.NameKind.globalImplicit)], isGenerator := false, isCoroutine := false, more := [] } : Scope) := ⟨rfl, rfl, rfl, by decide +kernel, rfl, by decide +kernel, by decide +kernel⟩
theorem ok_least_harm (G : Glo mg) (hw : w = Wd.w) (D_least_harm : DefAt K mg "least_harm" st_least_harm) (TB : LamX.TabB base mg D_least_harm.c Wd.lamP) (hlam : (Str.ofString "least_harm.<locals>.") ++ "<lambda>" = Wd.lamQ) (D_all_moments : DefAt K mg "all_moments" st_all_moments) (h_all_moments : FnOk P w K mg base CX0 20 D_all_moments.f D_all_moments.fd ["machine", "program", "many"] (spD Ps F_all_moments)) (D_fulfilled : DefAt K mg "fulfilled" st_fulfilled) (h_fulfilled : FnOk P w K mg base CX0 2 D_fulfilled.f D_fulfilled.fd ["held", "wishes"] (spD Ps F_fulfilled)) : FnOk P w K mg base CX0 23 D_least_harm.f D_least_harm.fd ["machine", "program", "many", "wishes"] (spD Ps F_least_harm) :=
  fn_data2 (k := 22) N_least_harm 4 9 S_least_harm rfl rfl rfl D_least_harm.ok sc_least_harm fun A outer s H E hr => by
    conv => arg 2; whnf
    exact (pssd_cons (psd_set (i := 4) sc_least_harm.nd rfl (by first | exact Or.inl rfl | exact Or.inr rfl) (pd_ix (pd_call h_all_moments (hr.mono (by omega)) rfl D_all_moments.m D_all_moments.ok.kp (bi_all_moments D_all_moments) .nil (fun _ => .nil) (pda_cons (pd_name 0 (pv 0)) (pda_cons (pd_name 1 (pv 1)) (pda_cons (pd_name 2 (pv 2)) pda_nil)))) (pd_neg pd_int)))
    (pssd_cons (psd_setLc (i := 5) rfl sc_least_harm.nd rfl rfl rfl (pid_items hw (pd_name 4 (pv 4))) bk_least_harm_0 (fun _ _ _ _ _ => (pg_tup rfl (pgs_cons (pg_tup rfl (pgs_cons (pg_name (i := 6) sc_least_harm.nd rfl (by first | exact Or.inl rfl | exact Or.inr rfl)) (pgs_cons (pg_name (i := 7) sc_least_harm.nd rfl (by first | exact Or.inl rfl | exact Or.inr rfl)) pgs_nil))) (pgs_cons (pg_name (i := 8) sc_least_harm.nd rfl (by first | exact Or.inl rfl | exact Or.inr rfl)) pgs_nil)))) (own_tup (own_cons (own_tup (own_cons (own_name (by decide)) (own_cons (own_name (by decide)) own_nil))) (own_cons (own_name (by decide)) own_nil))) (fun _ _ _ _ _ => (ptsd_one (pdt_not (pdt_b (pd_asB (pd_call h_fulfilled (hr.mono (by omega)) rfl D_fulfilled.m D_fulfilled.ok.kp (bi_fulfilled D_fulfilled) .nil (fun _ => .nil) (pda_cons (pd_name 6 (pv 6)) (pda_cons (pd_name 3 (pv 3)) pda_nil)))))))) (fun _ _ _ _ _ => (pd_name 8 (pv 8))))
    (pssd_one (psd_ret (pd_if (pdt_tru (pd_name 5 (pv 5))) (pd_minkey (k := 1) (x := "losses") rfl (hr.mono (by omega)) TB rfl hlam sc_lam_least_harm rfl (fun _ => rfl) rfl G.min (pd_name 5 (pv 5)) (fun _ _ _ _ _ => .of_eq rfl) (fun _ _ _ _ hl => (pd_tup (pda_cons (pd_len rfl G.len (pd_name 0 (pv 0))) (pda_cons (pd_name 0 (pv 0)) pda_nil))))) pd_non)))))
/-! is_proof -/
theorem sc_is_proof : FnScope N_is_proof ["machine", "program", "many", "wishes"] (defScope st_is_proof) := ⟨rfl, rfl, rfl, by decide +kernel, rfl, by decide +kernel, by decide +kernel⟩
theorem ok_is_proof (G : Glo mg) (hw : w = Wd.w) (D_is_proof : DefAt K mg "is_proof" st_is_proof) (D_need_wished : DefAt K mg "need_wished" st_need_wished) (h_need_wished : FnOk P w K mg base CX0 21 D_need_wished.f D_need_wished.fd ["machine", "program", "many", "wishes"] (spD Ps F_need_wished)) (D_least_harm : DefAt K mg "least_harm" st_least_harm) (h_least_harm : FnOk P w K mg base CX0 23 D_least_harm.f D_least_harm.fd ["machine", "program", "many", "wishes"] (spD Ps F_least_harm)) : FnOk P w K mg base CX0 24 D_is_proof.f D_is_proof.fd ["machine", "program", "many", "wishes"] (spD Ps F_is_proof) :=
  fn_data2 (k := 23) N_is_proof 4 4 S_is_proof rfl rfl rfl D_is_proof.ok sc_is_proof fun A outer s H E hr => by
    conv => arg 2; whnf
    exact (pssd_cons (psd_ex (pd_call h_need_wished (hr.mono (by omega)) rfl D_need_wished.m D_need_wished.ok.kp (bi_need_wished D_need_wished) .nil (fun _ => .nil) (pda_cons (pd_name 0 (pv 0)) (pda_cons (pd_name 1 (pv 1)) (pda_cons (pd_name 2 (pv 2)) (pda_cons (pd_name 3 (pv 3)) pda_nil))))))
    (pssd_one (psd_ret (pd_cm cd_is (pd_call h_least_harm (hr.mono (by omega)) rfl D_least_harm.m D_least_harm.ok.kp (bi_least_harm D_least_harm) .nil (fun _ => .nil) (pda_cons (pd_name 0 (pv 0)) (pda_cons (pd_name 1 (pv 1)) (pda_cons (pd_name 2 (pv 2)) (pda_cons (pd_name 3 (pv 3)) pda_nil))))) pd_non rfl))))
/-! harm -/
theorem sc_harm : FnScope N_harm ["machine", "program", "many", "wishes"] (defScope st_harm) := ⟨rfl, rfl, rfl, by decide +kernel, rfl, by decide +kernel, by decide +kernel⟩
theorem ok_harm (G : Glo mg) (hw : w = Wd.w) (D_harm : DefAt K mg "harm" st_harm) (D_need_wished : DefAt K mg "need_wished" st_need_wished) (h_need_wished : FnOk P w K mg base CX0 21 D_need_wished.f D_need_wished.fd ["machine", "program", "many", "wishes"] (spD Ps F_need_wished)) (D_least_harm : DefAt K mg "least_harm" st_least_harm) (h_least_harm : FnOk P w K mg base CX0 23 D_least_harm.f D_least_harm.fd ["machine", "program", "many", "wishes"] (spD Ps F_least_harm)) : FnOk P w K mg base CX0 24 D_harm.f D_harm.fd ["machine", "program", "many", "wishes"] (spD Ps F_harm) :=
  fn_data2 (k := 23) N_harm 4 4 S_harm rfl rfl rfl D_harm.ok sc_harm fun A outer s H E hr => by
    conv => arg 2; whnf
    exact (pssd_cons (psd_ex (pd_call h_need_wished (hr.mono (by omega)) rfl D_need_wished.m D_need_wished.ok.kp (bi_need_wished D_need_wished) .nil (fun _ => .nil) (pda_cons (pd_name 0 (pv 0)) (pda_cons (pd_name 1 (pv 1)) (pda_cons (pd_name 2 (pv 2)) (pda_cons (pd_name 3 (pv 3)) pda_nil))))))
    (pssd_one (psd_ret (pd_call h_least_harm (hr.mono (by omega)) rfl D_least_harm.m D_least_harm.ok.kp (bi_least_harm D_least_harm) .nil (fun _ => .nil) (pda_cons (pd_name 0 (pv 0)) (pda_cons (pd_name 1 (pv 1)) (pda_cons (pd_name 2 (pv 2)) (pda_cons (pd_name 3 (pv 3)) pda_nil))))))))
/-! shows_harm -/
theorem sc_shows_harm : FnScope N_shows_harm ["machine", "program", "many", "wishes", "value"] (defScope st_shows_harm) := ⟨rfl, rfl, rfl, by decide +kernel, rfl, by decide +kernel, by decide +kernel⟩
theorem ok_shows_harm (G : Glo mg) (hw : w = Wd.w) (D_shows_harm : DefAt K mg "shows_harm" st_shows_harm) (D_first_terms : DefAt K mg "first_terms" st_first_terms) (h_first_terms : FnOk P w K mg base CX0 1 D_first_terms.f D_first_terms.fd ["machine"] (spD Ps F_first_terms)) (D_are_losses : DefAt K mg "are_losses" st_are_losses) (h_are_losses : FnOk P w K mg base CX0 3 D_are_losses.f D_are_losses.fd ["program", "many", "value"] (spD Ps F_are_losses)) (D_lost_behind : DefAt K mg "lost_behind" st_lost_behind) (h_lost_behind : FnOk P w K mg base CX0 14 D_lost_behind.f D_lost_behind.fd ["held", "program", "losses"] (spD Ps F_lost_behind)) (D_fulfilled : DefAt K mg "fulfilled" st_fulfilled) (h_fulfilled : FnOk P w K mg base CX0 2 D_fulfilled.f D_fulfilled.fd ["held", "wishes"] (spD Ps F_fulfilled)) (D_need_wished : DefAt K mg "need_wished" st_need_wished) (h_need_wished : FnOk P w K mg base CX0 21 D_need_wished.f D_need_wished.fd ["machine", "program", "many", "wishes"] (spD Ps F_need_wished)) (D_least_harm : DefAt K mg "least_harm" st_least_harm) (h_least_harm : FnOk P w K mg base CX0 23 D_least_harm.f D_least_harm.fd ["machine", "program", "many", "wishes"] (spD Ps F_least_harm)) : FnOk P w K mg base CX0 24 D_shows_harm.f D_shows_harm.fd ["machine", "program", "many", "wishes", "value"] (spD Ps F_shows_harm) :=
  fn_data2 (k := 23) N_shows_harm 5 6 S_shows_harm rfl rfl rfl D_shows_harm.ok sc_shows_harm fun A outer s H E hr => by
    conv => arg 2; whnf
    exact (pssd_cons (psd_ex (pd_call h_need_wished (hr.mono (by omega)) rfl D_need_wished.m D_need_wished.ok.kp (bi_need_wished D_need_wished) .nil (fun _ => .nil) (pda_cons (pd_name 0 (pv 0)) (pda_cons (pd_name 1 (pv 1)) (pda_cons (pd_name 2 (pv 2)) (pda_cons (pd_name 3 (pv 3)) pda_nil))))))
    (pssd_cons (psd_set (i := 5) sc_shows_harm.nd rfl (by first | exact Or.inl rfl | exact Or.inr rfl) (pd_call h_least_harm (hr.mono (by omega)) rfl D_least_harm.m D_least_harm.ok.kp (bi_least_harm D_least_harm) .nil (fun _ => .nil) (pda_cons (pd_name 0 (pv 0)) (pda_cons (pd_name 1 (pv 1)) (pda_cons (pd_name 2 (pv 2)) (pda_cons (pd_name 3 (pv 3)) pda_nil))))))
    (pssd_cons (psd_if (PW.pt (pdw_or (pdt_cm cd_is (pd_name 5 (pv 5)) pd_non rfl) (pdw_or1 (pdt_cm cd_is (pd_name 4 (pv 4)) pd_non rfl)))) (pssd_one (psd_ret (pd_and (pd_cm cd_is (pd_name 5 (pv 5)) pd_non rfl) (pd_one (pd_cm cd_is (pd_name 4 (pv 4)) pd_non rfl))))) pssd_nil)
    (pssd_cons (psd_if (PW.pt (pdw_or (pdt_not (pdt_b (pd_asB (pd_call h_are_losses (hr.mono (by omega)) rfl D_are_losses.m D_are_losses.ok.kp (bi_are_losses D_are_losses) .nil (fun _ => .nil) (pda_cons (pd_name 1 (pv 1)) (pda_cons (pd_name 2 (pv 2)) (pda_cons (pd_name 4 (pv 4)) pda_nil))))))) (pdw_or1 (pdt_cm (cd_ne (u64 hr)) (pd_len rfl G.len (pd_name 4 (pv 4))) (pd_len rfl G.len (pd_name 5 (pv 5))) rfl)))) (pssd_one (psd_ret pd_bl)) pssd_nil)
    (pssd_one (psd_ret (pd_not (pd_asB (pd_call h_fulfilled (hr.mono (by omega)) rfl D_fulfilled.m D_fulfilled.ok.kp (bi_fulfilled D_fulfilled) .nil (fun _ => .nil) (pda_cons (pd_call h_lost_behind (hr.mono (by omega)) rfl D_lost_behind.m D_lost_behind.ok.kp (bi_lost_behind D_lost_behind) .nil (fun _ => .nil) (pda_cons (pd_call h_first_terms (hr.mono (by omega)) rfl D_first_terms.m D_first_terms.ok.kp (bi_first_terms D_first_terms) .nil (fun _ => .nil) (pda_cons (pd_name 0 (pv 0)) pda_nil)) (pda_cons (pd_name 1 (pv 1)) (pda_cons (pd_name 4 (pv 4)) pda_nil)))) (pda_cons (pd_name 3 (pv 3)) pda_nil)))))))))))
/-! is_repeat_proof -/
theorem sc_is_repeat_proof : FnScope N_is_repeat_proof ["machine", "program", "many", "wishes"] (defScope st_is_repeat_proof) := ⟨rfl, rfl, rfl, by decide +kernel, rfl, by decide +kernel, by decide +kernel⟩
theorem bk_is_repeat_proof_0 : GSc N_is_repeat_proof (defScope st_is_repeat_proof) ({ kind := PySem.ScopeKind.function, names := [(PySem.Str.ofString ".0", PySem.NameKind.local), (PySem.Str.ofString "held", PySem.NameKind.local), (PySem.Str.ofString "wishes", PySem.NameKind.free), (PySem.Str.ofString "fulfilled", PySem.NameKind.globalImplicit)], isGenerator := true, isCoroutine := false, more := [] } : Scope) own_is_repeat_proof_0 := ⟨⟨rfl, by decide +kernel, by decide +kernel, by decide +kernel, by decide +kernel⟩, rfl, by decide +kernel, by decide +kernel⟩
theorem ok_is_repeat_proof (G : Glo mg) (hw : w = Wd.w) (D_is_repeat_proof : DefAt K mg "is_repeat_proof" st_is_repeat_proof) {P1 : Addr} (TB : LamX.TabB base mg D_is_repeat_proof.c P1) (hP : P1 ∈ Ps) (hPl : P1 ≠ Wd.lamP) (D_fulfilled : DefAt K mg "fulfilled" st_fulfilled) (h_fulfilled : FnOk P w K mg base CX0 2 D_fulfilled.f D_fulfilled.fd ["held", "wishes"] (spD Ps F_fulfilled)) (D_need_wished : DefAt K mg "need_wished" st_need_wished) (h_need_wished : FnOk P w K mg base CX0 21 D_need_wished.f D_need_wished.fd ["machine", "program", "many", "wishes"] (spD Ps F_need_wished)) (D_repeated_ends : DefAt K mg "repeated_ends" st_repeated_ends) (h_repeated_ends : FnOk P w K mg base CX0 20 D_repeated_ends.f D_repeated_ends.fd ["machine", "program", "many"] (spD Ps F_repeated_ends)) : FnOk P w K mg base CX0 23 D_is_repeat_proof.f D_is_repeat_proof.fd ["machine", "program", "many", "wishes"] (spD Ps F_is_repeat_proof) :=
  fn_data2 (k := 22) N_is_repeat_proof 4 5 S_is_repeat_proof rfl rfl rfl D_is_repeat_proof.ok sc_is_repeat_proof fun A outer s H E hr => by
    conv => arg 2; whnf
    exact (pssd_cons (psd_ex (pd_call h_need_wished (hr.mono (by omega)) rfl D_need_wished.m D_need_wished.ok.kp (bi_need_wished D_need_wished) .nil (fun _ => .nil) (pda_cons (pd_name 0 (pv 0)) (pda_cons (pd_name 1 (pv 1)) (pda_cons (pd_name 2 (pv 2)) (pda_cons (pd_name 3 (pv 3)) pda_nil))))))
    (pssd_one (psd_ret (pd_all sc_is_repeat_proof.nd hr rfl G.all TB hP hPl rfl (pid_keys hw (pd_call h_repeated_ends (hr.mono (by omega)) rfl D_repeated_ends.m D_repeated_ends.ok.kp (bi_repeated_ends D_repeated_ends) .nil (fun _ => .nil) (pda_cons (pd_name 0 (pv 0)) (pda_cons (pd_name 1 (pv 1)) (pda_cons (pd_name 2 (pv 2)) pda_nil))))) bk_is_repeat_proof_0 (fun _ _ _ _ _ _ _ => (pg_name (i := 4) sc_is_repeat_proof.nd rfl (by first | exact Or.inl rfl | exact Or.inr rfl))) (own_name (by decide)) (fun _ _ _ _ _ _ _ hg => (pd_call h_fulfilled (hg.mono (by omega)) rfl D_fulfilled.m D_fulfilled.ok.kp (bi_fulfilled D_fulfilled) .nil (fun _ => .nil) (pda_cons (pd_name 4 (pv 4)) (pda_cons (pd_name 3 (pv 3)) pda_nil))))))))
end
end LL
set_option Elab.async false
set_option linter.all false
set_option maxRecDepth 100000
set_option maxHeartbeats 2000000
set_option autoImplicit false
/-! A pure comprehension assigned beside the row; the fragment told at a statement. -/
namespace LL
open PySem PySem.Spec PyProof.Rows L2
variable [Wd]
section
variable {Ps : List Addr} {K : PySem.W.Frag} {F : Frm} {X : Cx} {pos : Pos}
theorem ps_kf {st : Stmt} {t : TS} (h : PS X st t) : PS X st (fun D σ H => t { nx := fun σ' H' => KFree X.K H' → D.nx σ' H', rt := D.rt, bk := D.bk, ct := D.ct } σ H) := ⟨fun pins s σ H D I q => thn (h.run pins s σ H _ I q) fun f s1 z => by
  cases f with
  | next => obtain ⟨σ', H', I', q'⟩ := z; exact ⟨σ', H', I', q' (inv_kfree I')⟩
  | brk => exact z
  | cont => exact z
  | ret u => exact z⟩
theorem pss_kf {st : List Stmt} {t : TS} (h : PSs X st t) : PSs X st (fun D σ H => KFree X.K H → t D σ H) := ⟨fun pins s σ H D I q => h.run pins s σ H D I (q (inv_kfree I))⟩
theorem pss_exF {st : List Stmt} {S : SM} (h : ∀ F, PSs X st (tM Ps K F S)) : PSs X st (fun D σ H => ∃ F, tM Ps K F S D σ H) := ⟨fun pins s σ H D I ⟨F, q⟩ => (h F).run pins s σ H D I q⟩
theorem msm_setLcP {i : Nat} {y : Str} {py : Pos} {elt tg iter : Expr} {ifs : List Expr} {scope : Scope} {own : List (Str × Nat)} {spos : Pos} {I : DEnv → Option (List PyData)} {g : TG} {G : PyData → DEnv → Option DEnv} {Cn : DEnv → Option Bool} {E : DEnv → Option PyData} (hK : X.K = K) (hc : X.calm = true) (hN : X.N.Nodup) (hy : X.N[i]? = some y) (hyl : X.env.scope.names.lookup y = some .local)
    (hsw : swapsWith (.ListComp elt [⟨tg, iter, ifs, 0⟩] scope pos) (some (.Name y py)) spos.line X.env = pure true) (hi : PI X tg iter (tI Ps I)) (ok : BlkOk X.N X.env.scope scope own)
    (hg : ∀ (s : Shared) (H : Hp) (C : Addr) (cl : List (Str × Addr)) (fp : List Addr), PG (X.blk s H scope (compEnvC scope cl C X.env) fp) tg g) (hG : OwnG g (own.map (·.2)) Ps G)
    (ht : ∀ (s : Shared) (H : Hp) (C : Addr) (cl : List (Str × Addr)) (fp : List Addr), PTs (X.blk s H scope (compEnvC scope cl C X.env) fp) ifs (tT Ps Cn))
    (he : ∀ (s : Shared) (H : Hp) (C : Addr) (cl : List (Str × Addr)) (fp : List Addr), PE (X.blk s H scope (compEnvC scope cl C X.env) fp) elt (tD Ps E)) (hs : ∀ x, foldedSetIterable iter X.env x = pure x := by intro _; rfl) :
    PS X (.Assign [.Name y py] (.ListComp elt [⟨tg, iter, ifs, 0⟩] scope pos) spos) (tM Ps K F (wSet i (wP (oLc I (own.map (·.2)) G Cn E)))) :=
  ps_imp (ps_kf (ps_setLc hc hN hy hyl hsw hi ok hg ht he hs)) fun D σ H ⟨ρ, M, Φ, k, r, ⟨d, e1, o, hm, φ⟩, q⟩ =>
    lc_imp hG σ H (fun x H1 => gName i x σ H1 fun σ' H' => KFree X.K H' → D.nx σ' H') ⟨viewM ρ M, d, k, r.view k, e1, fun v H1 s1 k1 r1 kf => q _ φ _ _ k1 (((r.step k s1).push (hK ▸ kf) o r1).set hm)⟩
end
end LL
set_option Elab.async false
set_option linter.all false
set_option maxRecDepth 100000
set_option maxHeartbeats 2000000
set_option autoImplicit false
/-! law's promise, its start. -/
namespace LL
open PySem PySem.Spec PyProof.Rows L2
variable [Wd]
def spLaw (K : PySem.W.Frag) (Ps : List Addr) : Sp := fun vs H Q _ => ∃ (a : Addr) (ns : List Int), vs = [.ref a] ∧ SqL K H a (ns.map V.int) ∧ Ok Ps H ∧ ∀ H', Q (.bl true) H'
theorem scr_of {K : PySem.W.Frag} {H : Hp} {a : Addr} {ns : List Int} (kf : KFree K H) (h : SqL K H a (ns.map V.int)) : ScrOk K H a ns := by
  rcases h with h | h
  · refine .inl ⟨?_, h⟩
    cases e : K.lookup a with
    | none => rfl
    | some o =>
      have := kf a o e
      rcases h with h | ⟨o, h⟩ <;> rw [this] at h <;> cases h
  · exact .inr h
theorem law_start {K : PySem.W.Frag} {Ps : List Addr} {S : SM} {m : Nat} {a : Addr} {ns : List Int} {H : Hp} {Q : VK} (hs : SqL K H a (ns.map V.int)) (ok : Ok Ps H) (hS : S (List.replicate (m + 2) none) [(1, .row)] fun o => ∃ M, o = .rt (.bool true) M) (q : ∀ H', Q (.bl true) H') :
    tSeq (tAsg (tLst (tCons (tVar 0) (tCons (tC (.int 0)) (tCons (tC (.int 902)) (tCons (tC (.int 0)) tNil))))) (gName 1)) (fun D σ H => KFree K H → ∃ F, tM Ps K F S D σ H) { nx := fun _ H' => Q .non H', rt := Q } (some (.ref a) :: List.replicate (m + 1) none) H := by
  refine ⟨.ref a, rfl, by show 4 ≤ sizeLine; decide, fun p hp kf => ?_⟩
  have hs' : ScrOk K (upd H p (.lst [.ref a, .int 0, .int 902, .int 0])) a ns := by
    rcases hs with (h | ⟨o, h⟩) | h
    · exact scr_of kf (.inl (.inl (by rw [upd_ne (ne_of_none h hp)]; exact h)))
    · exact scr_of kf (.inl (.inr ⟨o, by rw [upd_ne (ne_of_none h hp)]; exact h⟩))
    · exact scr_of kf (.inr h)
  have hap : a ≠ p ∨ K.lookup a ≠ none := by
    rcases hs with (h | ⟨o, h⟩) | ⟨o, its, n, h, _⟩
    · exact .inl (ne_of_none h hp)
    · exact .inl (ne_of_none h hp)
    · exact .inr (by rw [h]; simp)
  have hap : a ≠ p := by
    rcases hap with h | h
    · exact h
    · intro e
      subst e
      cases hk : K.lookup a with
      | none => exact h hk
      | some o =>
        have := kf a o hk
        rw [upd_same] at this
        cases this
  have e1 : ((some (V.ref a) :: List.replicate (m + 1) none : L2.St).set 1 (some (.ref p))) = some (.ref a) :: some (.ref p) :: List.replicate m none := rfl
  refine ⟨⟨H, H, fun _ => none, some p, a⟩, List.replicate (m + 2) none, [(1, .row)], _, ok.new hp, ?_, hS, fun o ⟨M, eo⟩ => ?_⟩
  · rw [e1]
    have ei : ∀ (i : Nat) (d : PyData), (List.replicate (m + 2) none : DEnv)[i]? ≠ some (some d) := fun i d e => by
      rw [List.getElem?_replicate] at e
      split at e <;> cases e
    refine ⟨fun b o nb e => ?_, fun b o i e => ?_, fun x hx => ?_, fun x hx y hy _ => ?_, ⟨by simp, fun i d e => absurd e (ei i d)⟩, fun t ht => by simp at ht⟩
    · rw [upd_ne (fun z => nb (by simp [z]))]
      exact e
    · rw [upd_ne (ne_of_none e hp)]
      exact e
    · rw [List.mem_singleton.mp hx]
      exact ⟨rfl, rfl, ns, 0, 902, 0, upd_same, hs', hap, by decide, by decide, by decide⟩
    · rw [List.mem_singleton.mp hx, List.mem_singleton.mp hy]
  · subst eo
    intro v σ' ρ' H' k' r'
    have hv := r'.temp k' List.mem_cons_self
    generalize hz : (v, PyData.bool true) = z at hv
    obtain ⟨z1, z2⟩ := z
    generalize hz2 : PyData.bool true = dl at hz
    cases hz
    cases hv with
    | bl c =>
      cases hz2
      exact q H'
    | _ => cases hz2
end LL
set_option Elab.async false
set_option linter.all false
set_option maxRecDepth 100000
set_option maxHeartbeats 4000000
set_option autoImplicit false
/-! The defs that draw (printed by gen4.py). -/
namespace LL
open PySem PySem.Spec PyProof.Rows L2
/-! _law_machine -/
def own_law_machine_0 : List (Str × Nat) := [("_law_function", 3)]
def W_law_machine : SM :=
  (wThen (wPar 1 2 (wAddC 1 (wCallR 0 FF_law_taken (oCons (oC (.int 3)) oNil))) (wAddC 1 (wCallR 0 FF_law_taken (oCons (oC (.int 2)) oNil))))
    (wRt (wTup (wCons (wP (oV 1)) (wCons (wTuple (wLc 0 (wI (o1 iR1 (oV 2))) (own_law_machine_0.map (·.2)) (gN 3) wYes (wAddC 1 (wCallR 0 FF_law_taken (oCons (oC (.int 2)) oNil))))) wNil)))))
def FF_law_machine : List PyData → (PyData → Prop) → Prop := fun ds Φ => ds.length = 0 ∧ W_law_machine (none :: (ds.map some ++ List.replicate (4 - (ds.length + 1)) none)) [(0, .row)] fun o => ∃ d, o = .rt d [(0, .row)] ∧ Φ d
/-! _law_pick -/
def W_law_pick : SM :=
  (wRt (wIdx (oV 1) (wCallR 0 FF_law_taken (oCons (o1 lenD (oV 1)) oNil))))
def FF_law_pick : List PyData → (PyData → Prop) → Prop := fun ds Φ => ds.length = 1 ∧ W_law_pick (none :: (ds.map some ++ List.replicate (2 - (ds.length + 1)) none)) [(0, .row)] fun o => ∃ d, o = .rt d [(0, .row)] ∧ Φ d
/-! _law_program -/
def own_law_program_0 : List (Str × Nat) := [("_law_turn", 4)]
def W_law_program : SM :=
  (wThen (wSet 3 (wP (oL (fun as => F_law_every_line (as ++ [])) (oCons (oV 1) oNil))))
    (wRt (wTuple (wLc 0 (wR1 (wCallR 0 FF_law_taken (oCons (o2 addD (oV 2) (oC (.int 1))) oNil))) (own_law_program_0.map (·.2)) (gN 4) wYes (wCallR 0 FF_law_pick (oCons (oV 3) oNil))))))
def FF_law_program : List PyData → (PyData → Prop) → Prop := fun ds Φ => ds.length = 2 ∧ W_law_program (none :: (ds.map some ++ List.replicate (5 - (ds.length + 1)) none)) [(0, .row)] fun o => ∃ d, o = .rt d [(0, .row)] ∧ Φ d
/-! _law_wishes -/
def own_law_wishes_0 : List (Str × Nat) := [("_law_cell", 5)]
def own_law_wishes_1 : List (Str × Nat) := [("_law_cell", 5)]
def W_law_wishes : SM :=
  (wThen (wIf (wGtC 0 (wCallR 0 FF_law_taken (oCons (oC (.int 3)) oNil))) (wThen (wSet 2 (wCallP F_law_tame (wCons (wP (oV 1)) (wCons (wCallR 0 FF_law_program (oCons (oV 1) (oCons (oC (.int 5)) oNil))) wNil))))
    (wSet 3 (wP (oL (fun as => F_law_ran (as ++ [])) (oCons (oV 1) (oCons (oV 2) (oCons (oL mkT oNil) oNil))))))) (wSet 3 (wTuple (wLc 0 (wI (o1 iR1 (o2 ixD (oV 1) (oC (.int 0))))) (own_law_wishes_0.map (·.2)) (gN 5) wYes (wCallR 0 FF_law_pick (oCons (oL mkL (oCons (oC (.int 0)) (oCons (o2 addD (oL mkT (oCons (oC (.int 0)) oNil)) (o2 mulTD (oL mkT (oCons (oC (.int 0)) oNil)) (o2 ixD (o2 ixD (oV 1) (oC (.int 1))) (oC (.int 0))))) oNil))) oNil))))))
    (wThen (wSet 4 (wLc 0 (wI (o1 iR1 (o2 ixD (oV 1) (oC (.int 0))))) (own_law_wishes_1.map (·.2)) (gN 5) (wGtC 0 (wCallR 0 FF_law_taken (oCons (oC (.int 3)) oNil))) (wP (oL mkT (oCons (oV 5) (oCons (o2 ixD (oV 3) (oV 5)) oNil))))))
    (wRt (wP (oIf (o2 neD (oV 4) (oL mkL oNil)) (o1 tupD (oV 4)) (oL mkT (oCons (oL mkT (oCons (oC (.int 0)) (oCons (o2 ixD (oV 3) (oC (.int 0))) oNil))) oNil)))))))
def FF_law_wishes : List PyData → (PyData → Prop) → Prop := fun ds Φ => ds.length = 1 ∧ W_law_wishes (none :: (ds.map some ++ List.replicate (6 - (ds.length + 1)) none)) [(0, .row)] fun o => ∃ d, o = .rt d [(0, .row)] ∧ Φ d
end LL
set_option Elab.async false
set_option linter.all false
set_option maxRecDepth 100000
set_option maxHeartbeats 4000000
set_option autoImplicit false
/-! Their walks (printed by gen4.py). -/
namespace LL
open PySem PySem.Spec PyProof.Rows L2
variable [Wd]
section
variable {P : Program} {w : World} {K : PySem.W.Frag} {mg : Str → Option Value} {base : Heap} {Ps : List Addr}
/-! _law_machine -/
theorem sc_law_machine : FnScope N_law_machine ["_law_row"] (defScope st_law_machine) := ⟨rfl, rfl, rfl, by decide +kernel, rfl, by decide +kernel, by decide +kernel⟩
theorem bk_law_machine_0 : BlkOk N_law_machine (defScope st_law_machine) ({ kind := PySem.ScopeKind.function, names := [(PySem.Str.ofString ".0", PySem.NameKind.local), (PySem.Str.ofString "_law_function", PySem.NameKind.local), (PySem.Str.ofString "_law_taken", PySem.NameKind.globalImplicit), (PySem.Str.ofString "_law_row", PySem.NameKind.free)], isGenerator := false, isCoroutine := false, more := [] } : Scope) own_law_machine_0 := ⟨rfl, by decide +kernel, by decide +kernel, by decide +kernel, by decide +kernel⟩
theorem ok_law_machine (G : Glo mg) (hw : w = Wd.w) (D_law_machine : DefAt K mg "_law_machine" st_law_machine) (D_law_taken : DefAt K mg "_law_taken" st_law_taken) (h_law_taken : FnOk P w K mg base CX0 1 D_law_taken.f D_law_taken.fd ["_law_row", "_law_many"] (spR K Ps FF_law_taken)) : FnOk P w K mg base CX0 2 D_law_machine.f D_law_machine.fd ["_law_row"] (spR K Ps FF_law_machine) :=
  fn_dataR (k := 1) N_law_machine W_law_machine (fun ds Φ h => ⟨by rw [h.1]; rfl, by decide, h.2⟩) D_law_machine.ok sc_law_machine fun A outer s H E F hr => by
    conv => arg 2; whnf
    exact (mss_cons (msm_par (i := 1) (j := 2) rfl sc_law_machine.nd rfl rfl (by decide) rfl rfl (me_addC (me_callR (ir := 0) rfl h_law_taken (hr.mono (by omega)) rfl D_law_taken.m D_law_taken.ok.kp (bi_law_taken D_law_taken) (pv 0) (pda_cons pd_int pda_nil))) (me_addC (me_callR (ir := 0) rfl h_law_taken (hr.mono (by omega)) rfl D_law_taken.m D_law_taken.ok.kp (bi_law_taken D_law_taken) (pv 0) (pda_cons pd_int pda_nil))))
    (mss_one (msm_ret (me_tup (ma_cons (me_pure rfl (pd_name 1 (pv 1))) (ma_cons (me_tuple rfl G.tuple (me_lc rfl sc_law_machine.nd (mi_pure (pii_rg1 rfl G.range (pd_name 2 (pv 2)))) bk_law_machine_0 (fun _ _ _ _ _ => (pg_name (i := 3) sc_law_machine.nd rfl (by first | exact Or.inl rfl | exact Or.inr rfl))) (ownm_name (by decide)) (fun _ _ _ _ _ _ => mts_nil) (fun _ _ _ _ _ _ => (me_addC (me_callR (ir := 0) rfl h_law_taken (hr.mono (by omega)) rfl D_law_taken.m D_law_taken.ok.kp (bi_law_taken D_law_taken) (pv 0) (pda_cons pd_int pda_nil)))))) ma_nil))))))
/-! _law_pick -/
theorem sc_law_pick : FnScope N_law_pick ["_law_row", "_law_things"] (defScope st_law_pick) := ⟨rfl, rfl, rfl, by decide +kernel, rfl, by decide +kernel, by decide +kernel⟩
theorem ok_law_pick (G : Glo mg) (hw : w = Wd.w) (D_law_pick : DefAt K mg "_law_pick" st_law_pick) (D_law_taken : DefAt K mg "_law_taken" st_law_taken) (h_law_taken : FnOk P w K mg base CX0 1 D_law_taken.f D_law_taken.fd ["_law_row", "_law_many"] (spR K Ps FF_law_taken)) : FnOk P w K mg base CX0 2 D_law_pick.f D_law_pick.fd ["_law_row", "_law_things"] (spR K Ps FF_law_pick) :=
  fn_dataR (k := 1) N_law_pick W_law_pick (fun ds Φ h => ⟨by rw [h.1]; rfl, by decide, h.2⟩) D_law_pick.ok sc_law_pick fun A outer s H E F hr => by
    conv => arg 2; whnf
    exact (mss_one (msm_ret (me_idx rfl (pd_name 1 (pv 1)) (me_callR (ir := 0) rfl h_law_taken (hr.mono (by omega)) rfl D_law_taken.m D_law_taken.ok.kp (bi_law_taken D_law_taken) (pv 0) (pda_cons (pd_len rfl G.len (pd_name 1 (pv 1))) pda_nil)))))
/-! _law_program -/
theorem sc_law_program : FnScope N_law_program ["_law_row", "_law_machine_here", "_law_many"] (defScope st_law_program) := ⟨rfl, rfl, rfl, by decide +kernel, rfl, by decide +kernel, by decide +kernel⟩
theorem bk_law_program_0 : BlkOk N_law_program (defScope st_law_program) ({ kind := PySem.ScopeKind.function, names := [(PySem.Str.ofString ".0", PySem.NameKind.local), (PySem.Str.ofString "_law_turn", PySem.NameKind.local), (PySem.Str.ofString "_law_pick", PySem.NameKind.globalImplicit), (PySem.Str.ofString "_law_lines", PySem.NameKind.free), (PySem.Str.ofString "_law_row", PySem.NameKind.free)], isGenerator := false, isCoroutine := false, more := [] } : Scope) own_law_program_0 := ⟨rfl, by decide +kernel, by decide +kernel, by decide +kernel, by decide +kernel⟩
theorem ok_law_program (G : Glo mg) (hw : w = Wd.w) (D_law_program : DefAt K mg "_law_program" st_law_program) (D_law_taken : DefAt K mg "_law_taken" st_law_taken) (h_law_taken : FnOk P w K mg base CX0 1 D_law_taken.f D_law_taken.fd ["_law_row", "_law_many"] (spR K Ps FF_law_taken)) (D_law_every_line : DefAt K mg "_law_every_line" st_law_every_line) (h_law_every_line : FnOk P w K mg base CX0 1 D_law_every_line.f D_law_every_line.fd ["_law_machine_here"] (spD Ps F_law_every_line)) (D_law_pick : DefAt K mg "_law_pick" st_law_pick) (h_law_pick : FnOk P w K mg base CX0 2 D_law_pick.f D_law_pick.fd ["_law_row", "_law_things"] (spR K Ps FF_law_pick)) : FnOk P w K mg base CX0 3 D_law_program.f D_law_program.fd ["_law_row", "_law_machine_here", "_law_many"] (spR K Ps FF_law_program) :=
  fn_dataR (k := 2) N_law_program W_law_program (fun ds Φ h => ⟨by rw [h.1]; rfl, by decide, h.2⟩) D_law_program.ok sc_law_program fun A outer s H E F hr => by
    conv => arg 2; whnf
    exact (mss_cons (msm_set (i := 3) sc_law_program.nd rfl (by first | exact Or.inl rfl | exact Or.inr rfl) (me_pure rfl (pd_call h_law_every_line (hr.mono (by omega)) rfl D_law_every_line.m D_law_every_line.ok.kp (bi_law_every_line D_law_every_line) .nil (fun _ => .nil) (pda_cons (pd_name 1 (pv 1)) pda_nil))))
    (mss_one (msm_ret (me_tuple rfl G.tuple (me_lc rfl sc_law_program.nd (mi_rg1 rfl G.range (me_callR (ir := 0) rfl h_law_taken (hr.mono (by omega)) rfl D_law_taken.m D_law_taken.ok.kp (bi_law_taken D_law_taken) (pv 0) (pda_cons (pd_add (pd_name 2 (pv 2)) pd_int) pda_nil))) bk_law_program_0 (fun _ _ _ _ _ => (pg_name (i := 4) sc_law_program.nd rfl (by first | exact Or.inl rfl | exact Or.inr rfl))) (ownm_name (by decide)) (fun _ _ _ _ _ _ => mts_nil) (fun _ _ _ _ _ _ => (me_callR (ir := 0) rfl h_law_pick (hr.mono (by omega)) rfl D_law_pick.m D_law_pick.ok.kp (bi_law_pick D_law_pick) (pv 0) (pda_cons (pd_name 3 (pv 3)) pda_nil))))))))
/-! _law_wishes -/
theorem sc_law_wishes : FnScope N_law_wishes ["_law_row", "_law_machine_here"] (defScope st_law_wishes) := ⟨rfl, rfl, rfl, by decide +kernel, rfl, by decide +kernel, by decide +kernel⟩
theorem bk_law_wishes_0 : BlkOk N_law_wishes (defScope st_law_wishes) ({ kind := PySem.ScopeKind.function, names := [(PySem.Str.ofString ".0", PySem.NameKind.local), (PySem.Str.ofString "_law_cell", PySem.NameKind.local), (PySem.Str.ofString "_law_pick", PySem.NameKind.globalImplicit), (PySem.Str.ofString "_law_machine_here", PySem.NameKind.free), (PySem.Str.ofString "_law_row", PySem.NameKind.free)], isGenerator := false, isCoroutine := false, more := [] } : Scope) own_law_wishes_0 := ⟨rfl, by decide +kernel, by decide +kernel, by decide +kernel, by decide +kernel⟩
theorem bk_law_wishes_1 : BlkOk N_law_wishes (defScope st_law_wishes) ({ kind := PySem.ScopeKind.function, names := [(PySem.Str.ofString ".0", PySem.NameKind.local), (PySem.Str.ofString "_law_cell", PySem.NameKind.local), (PySem.Str.ofString "_law_taken", PySem.NameKind.globalImplicit), (PySem.Str.ofString "_law_held", PySem.NameKind.free), (PySem.Str.ofString "_law_row", PySem.NameKind.free)], isGenerator := false, isCoroutine := false, more := [] } : Scope) own_law_wishes_1 := ⟨rfl, by decide +kernel, by decide +kernel, by decide +kernel, by decide +kernel⟩
theorem ok_law_wishes (G : Glo mg) (hw : w = Wd.w) (D_law_wishes : DefAt K mg "_law_wishes" st_law_wishes) (D_law_taken : DefAt K mg "_law_taken" st_law_taken) (h_law_taken : FnOk P w K mg base CX0 1 D_law_taken.f D_law_taken.fd ["_law_row", "_law_many"] (spR K Ps FF_law_taken)) (D_law_tame : DefAt K mg "_law_tame" st_law_tame) (h_law_tame : FnOk P w K mg base CX0 13 D_law_tame.f D_law_tame.fd ["_law_machine_here", "_law_program_here"] (spD Ps F_law_tame)) (D_law_pick : DefAt K mg "_law_pick" st_law_pick) (h_law_pick : FnOk P w K mg base CX0 2 D_law_pick.f D_law_pick.fd ["_law_row", "_law_things"] (spR K Ps FF_law_pick)) (D_law_program : DefAt K mg "_law_program" st_law_program) (h_law_program : FnOk P w K mg base CX0 3 D_law_program.f D_law_program.fd ["_law_row", "_law_machine_here", "_law_many"] (spR K Ps FF_law_program)) (D_law_ran : DefAt K mg "_law_ran" st_law_ran) (h_law_ran : FnOk P w K mg base CX0 13 D_law_ran.f D_law_ran.fd ["_law_machine_here", "_law_program_here", "_law_losses"] (spD Ps F_law_ran)) : FnOk P w K mg base CX0 14 D_law_wishes.f D_law_wishes.fd ["_law_row", "_law_machine_here"] (spR K Ps FF_law_wishes) :=
  fn_dataR (k := 13) N_law_wishes W_law_wishes (fun ds Φ h => ⟨by rw [h.1]; rfl, by decide, h.2⟩) D_law_wishes.ok sc_law_wishes fun A outer s H E F hr => by
    conv => arg 2; whnf
    exact (mss_cons (msm_if (mt_gtC (me_callR (ir := 0) rfl h_law_taken (hr.mono (by omega)) rfl D_law_taken.m D_law_taken.ok.kp (bi_law_taken D_law_taken) (pv 0) (pda_cons pd_int pda_nil))) (mss_cons (msm_set (i := 2) sc_law_wishes.nd rfl (by first | exact Or.inl rfl | exact Or.inr rfl) (me_callP rfl h_law_tame (hr.mono (by omega)) rfl D_law_tame.m D_law_tame.ok.kp (bi_law_tame D_law_tame) (ma_cons (me_pure rfl (pd_name 1 (pv 1))) (ma_cons (me_callR (ir := 0) rfl h_law_program (hr.mono (by omega)) rfl D_law_program.m D_law_program.ok.kp (bi_law_program D_law_program) (pv 0) (pda_cons (pd_name 1 (pv 1)) (pda_cons pd_int pda_nil))) ma_nil))))
    (mss_one (msm_set (i := 3) sc_law_wishes.nd rfl (by first | exact Or.inl rfl | exact Or.inr rfl) (me_pure rfl (pd_call h_law_ran (hr.mono (by omega)) rfl D_law_ran.m D_law_ran.ok.kp (bi_law_ran D_law_ran) .nil (fun _ => .nil) (pda_cons (pd_name 1 (pv 1)) (pda_cons (pd_name 2 (pv 2)) (pda_cons (pd_tup pda_nil) pda_nil)))))))) (mss_one (msm_set (i := 3) sc_law_wishes.nd rfl (by first | exact Or.inl rfl | exact Or.inr rfl) (me_tuple rfl G.tuple (me_lc rfl sc_law_wishes.nd (mi_pure (pii_rg1 rfl G.range (pd_ix (pd_name 1 (pv 1)) pd_int))) bk_law_wishes_0 (fun _ _ _ _ _ => (pg_name (i := 5) sc_law_wishes.nd rfl (by first | exact Or.inl rfl | exact Or.inr rfl))) (ownm_name (by decide)) (fun _ _ _ _ _ _ => mts_nil) (fun _ _ _ _ _ _ => (me_callR (ir := 0) rfl h_law_pick (hr.mono (by omega)) rfl D_law_pick.m D_law_pick.ok.kp (bi_law_pick D_law_pick) (pv 0) (pda_cons (pd_lst (pda_cons pd_int (pda_cons (pd_add (pd_tup (pda_cons pd_int pda_nil)) (pd_mulT (pd_tup (pda_cons pd_int pda_nil)) (pd_ix (pd_ix (pd_name 1 (pv 1)) pd_int) pd_int))) pda_nil))) pda_nil))))))))
    (mss_cons (msm_setLc (i := 4) rfl sc_law_wishes.nd rfl rfl rfl (mi_pure (pii_rg1 rfl G.range (pd_ix (pd_name 1 (pv 1)) pd_int))) bk_law_wishes_1 (fun _ _ _ _ _ => (pg_name (i := 5) sc_law_wishes.nd rfl (by first | exact Or.inl rfl | exact Or.inr rfl))) (ownm_name (by decide)) (fun _ _ _ _ _ _ => (mts_one (mt_gtC (me_callR (ir := 0) rfl h_law_taken (hr.mono (by omega)) rfl D_law_taken.m D_law_taken.ok.kp (bi_law_taken D_law_taken) (pv 0) (pda_cons pd_int pda_nil))))) (fun _ _ _ _ _ _ => (me_pure rfl (pd_tup (pda_cons (pd_name 5 (pv 5)) (pda_cons (pd_ix (pd_name 3 (pv 3)) (pd_name 5 (pv 5))) pda_nil))))))
    (mss_one (msm_ret (me_pure rfl (pd_if (pdt_cm (cd_ne (u64 hr)) (pd_name 4 (pv 4)) (pd_lst pda_nil) rfl) (pd_tuple rfl G.tuple (pd_name 4 (pv 4))) (pd_tup (pda_cons (pd_tup (pda_cons pd_int (pda_cons (pd_ix (pd_name 3 (pv 3)) pd_int) pda_nil))) pda_nil))))))))
end
end LL
set_option Elab.async false
set_option linter.all false
set_option maxRecDepth 100000
set_option maxHeartbeats 4000000
set_option autoImplicit false
/-! law (printed by gen5.py). -/
namespace LL
open PySem PySem.Spec PyProof.Rows L2
def own_law_0 : List (Str × Nat) := [("_law_cell", 7)]
def own_law_1 : List (Str × Nat) := [("_law_losses", 20)]
def own_law_2 : List (Str × Nat) := [("_law_held", 6)]
def own_law_3 : List (Str × Nat) := [("_law_losses", 20)]
def own_law_4 : List (Str × Nat) := [("_law_losses", 20)]
def own_law_5 : List (Str × Nat) := [("_law_one", 21)]
def own_law_6 : List (Str × Nat) := [("_law_held", 6)]
def own_law_7 : List (Str × Nat) := [("_law_term", 22)]
def own_law_8 : List (Str × Nat) := [("_law_held", 6)]
def own_law_9 : List (Str × Nat) := [("_law_cell", 7), ("_law_term", 22)]
def W_law : SM :=
  (wThen (wSet 2 (wCallR 1 FF_law_machine oNil))
    (wThen (wAsg (wTup (wCons (wCallP F_law_tame (wCons (wP (oV 2)) (wCons (wCallR 1 FF_law_program (oCons (oV 2) (oCons (oC (.int 4)) oNil))) wNil))) (wCons (wAddC 1 (wCallR 1 FF_law_taken (oCons (oC (.int 2)) oNil))) wNil))) [3, 4] (gTupD 2 (gConsD (gN 3) (gConsD (gN 4) gNilD))))
    (wThen (wIf (wEqC 0 (wCallR 1 FF_law_taken (oCons (oC (.int 2)) oNil))) (wSet 3 (wP (oL (fun as => F_law_tame (as ++ [])) (oCons (oV 2) (oCons (oL (fun as => F_law_times (as ++ [])) (oCons (oV 3) (oCons (oC (.int 2)) oNil))) oNil))))) wNx)
    (wThen (wSet 5 (wCallR 1 FF_law_wishes (oCons (oV 2) oNil)))
    (wThen (wIf (wGtC 0 (wCallR 1 FF_law_taken (oCons (oC (.int 3)) oNil))) (wThen (wSet 6 (wP (oL (fun as => F_law_ran (as ++ [])) (oCons (oV 2) (oCons (oV 3) (oCons (oL mkT oNil) oNil))))))
    (wSet 5 (wTuple (wLc 1 (wI (o1 iR1 (o2 ixD (oV 2) (oC (.int 0))))) (own_law_0.map (·.2)) (gN 7) (wOr (wEqC 0 (wCallR 1 FF_law_taken (oCons (oC (.int 2)) oNil))) (wT (o2 eqD (oV 7) (oC (.int 0))))) (wP (oL mkT (oCons (oV 7) (oCons (o2 ixD (oV 6) (oV 7)) oNil)))))))) wNx)
    (wThen (wSet 8 (wP (oL (fun as => F_sure_terms (as ++ [])) (oCons (oV 2) (oCons (oV 3) (oCons (oV 4) oNil))))))
    (wThen (wIf (wT (o2 neD (o1 lenD (oV 8)) (o2 addD (o1 lenD (oV 3)) (oC (.int 1))))) (wRt (wP (oC (.bool false)))) wNx)
    (wThen (wFor (o1 iR1 (o2 addD (o1 lenD (oV 3)) (oC (.int 1)))) [9] (gN 9) (wThen (wSet 10 (wP (oLc (o1 iL (oL (fun as => F_law_every_loss (as ++ [])) (oCons (oV 9) (oCons (oV 4) oNil)))) (own_law_1.map (·.2)) (gN 20) oYes (oL (fun as => F_law_ran (as ++ [])) (oCons (oV 2) (oCons (oSl (oV 3) oNoP (oP (oV 9))) (oCons (oV 20) oNil)))))))
    (wThen (wIf (wT (o2 inD (oC .none) (oV 10))) (wRt (wP (oC (.bool true)))) wNx)
    (wFor (o1 iR1 (o2 ixD (oV 2) (oC (.int 0)))) [7] (gN 7) (wThen (wSet 11 (wP (oLc (o1 iL (oV 10)) (own_law_2.map (·.2)) (gN 6) oYes (o2 ixD (oV 6) (oV 7)))))
    (wIf (wT (oNot (o1 asB (oL (fun as => (F_law_alike 12) (as ++ [])) (oCons (o2 ixD (o2 ixD (oV 8) (oV 9)) (oV 7)) (oCons (oIf (o2 eqD (oV 11) (o2 mulD (oL mkL (oCons (o2 ixD (oV 11) (oC (.int 0))) oNil)) (o1 lenD (oV 11)))) (o2 ixD (oV 11) (oC (.int 0))) (oC .none)) oNil)))))) (wRt (wP (oC (.bool false)))) wNx))))))
    (wThen (wSet 12 (wP (oL (fun as => F_law_every_loss (as ++ [])) (oCons (o1 lenD (oV 3)) (oCons (oV 4) oNil)))))
    (wThen (wSet 13 (wP (oLc (o1 iL (oV 12)) (own_law_3.map (·.2)) (gN 20) (o1 asB (oL (fun as => F_law_bad (as ++ [])) (oCons (oV 2) (oCons (oV 3) (oCons (oV 20) (oCons (oV 5) oNil)))))) (oV 20))))
    (wThen (wSet 14 (wP (o1 minD (o2 addD (oLc (o1 iL (oV 13)) (own_law_4.map (·.2)) (gN 20) oYes (o1 lenD (oV 20))) (oL mkL (oCons (oC (.int 99)) oNil))))))
    (wThen (wIf (wT (oNot (o1 asB (oL (fun as => (F_law_alike 12) (as ++ [])) (oCons (oL (fun as => F_is_proof (as ++ [])) (oCons (oV 2) (oCons (oV 3) (oCons (oV 4) (oCons (oV 5) oNil))))) (oCons (oB (o2 eqD (oV 13) (oL mkL oNil))) oNil)))))) (wRt (wP (oC (.bool false)))) wNx)
    (wThen (wSet 15 (wP (oL (fun as => F_harm (as ++ [])) (oCons (oV 2) (oCons (oV 3) (oCons (oV 4) (oCons (oV 5) oNil)))))))
    (wThen (wIf (wT (oOr (o2 neD (oB (o2 isD (oV 15) (oC .none))) (oB (o2 eqD (oV 13) (oL mkL oNil)))) (oAnd (o2 notD (oV 15) (oC .none)) (oOr (o2 (fun a b => (inD a b).map (!·)) (oV 15) (oV 13)) (o2 neD (o1 lenD (oV 15)) (oV 14)))))) (wRt (wP (oC (.bool false)))) wNx)
    (wThen (wFor (o1 iR1 (oC (.int 5))) [16] (gN 16) (wThen (wSet 17 (wCallR 1 FF_law_pick (oCons (o2 addD (oV 12) (o2 mulD (oL mkL (oCons (oV 15) oNil)) (oC (.int 3)))) oNil)))
    (wThen (wSet 17 (wCallR 1 FF_law_pick (oCons (o2 addD (o2 mulD (oL mkL (oCons (oV 17) oNil)) (oC (.int 4))) (oL mkL (oCons (oC .none) (oCons (oC opD) (oCons (oL (fun ds => if ds.length ≤ sizeLine then some opL else none) (oCons (oC (.int 0)) oNil)) (oCons (oL mkT (oCons (oC (.int 0)) (oCons (oC (.int 0)) oNil))) (oCons (oL mkT (oCons (oC (.bool true)) oNil)) (oCons (oL mkT (oCons (oC (.int 99)) oNil)) (oCons (oRg1 (o2 addD (oV 4) (oC (.int 1)))) oNil))))))))) oNil)))
    (wThen (wSet 18 (wP (oB (oAnd (o1 (isaD "tuple") (oV 17)) (oAnd (o2 inD (oV 17) (oV 13)) (o2 eqD (o1 lenD (oV 17)) (oV 14)))))))
    (wThen (wSet 18 (wP (oB (oAnd (o1 asB (oV 18)) (o2 eqD (oLc (o1 iT (oV 17)) (own_law_5.map (·.2)) (gN 21) (o1 (isaD "bool") (oV 21)) (oV 21)) (oL mkL oNil))))))
    (wThen (wIf (wT (o2 isD (oV 17) (oC .none))) (wSet 18 (wP (oB (o2 eqD (oV 13) (oL mkL oNil))))) wNx)
    (wIf (wT (oNot (o1 asB (oL (fun as => (F_law_alike 12) (as ++ [])) (oCons (oL (fun as => F_shows_harm (as ++ [])) (oCons (oV 2) (oCons (oV 3) (oCons (oV 4) (oCons (oV 5) (oCons (oV 17) oNil)))))) (oCons (oV 18) oNil)))))) (wRt (wP (oC (.bool false)))) wNx)))))))
    (wThen (wIf (wT (o2 gtD (o2 mulD (o1 maxD (o2 addD (oL mkL (oCons (o1 lenD (oV 3)) oNil)) (oL mkL (oCons (oC (.int 0)) oNil)))) (oV 4)) (oC (.int 3)))) (wRt (wP (oC (.bool true)))) wNx)
    (wThen (wSet 10 (wP (oL (fun as => F_law_repeats (as ++ [])) (oCons (oV 2) (oCons (oV 3) (oCons (oV 4) oNil))))))
    (wThen (wIf (wT (o2 neD (oLc (o1 iL (oV 10)) (own_law_6.map (·.2)) (gN 6) (o2 gtD (o1 maxD (oLc (o1 iT (oV 6)) (own_law_7.map (·.2)) (gN 22) oYes (oL (fun as => (F_law_deep 12) (as ++ [])) (oCons (oV 22) oNil)))) (oC (.int 8))) (oC (.int 1))) (oL mkL oNil))) (wRt (wP (oC (.bool true)))) wNx)
    (wThen (wSet 19 (wP (oB (o2 eqD (oLc (o1 iL (oV 10)) (own_law_8.map (·.2)) (gN 6) (o2 neD (oLc (o1 iT (oV 5)) (own_law_9.map (·.2)) (gTupD 2 (gConsD (gN 7) (gConsD (gN 22) gNilD))) (o2 neD (o2 ixD (oV 6) (oV 7)) (oV 22)) (oC (.int 1))) (oL mkL oNil)) (oV 6)) (oL mkL oNil)))))
    (wRt (wP (oL (fun as => (F_law_alike 12) (as ++ [])) (oCons (oL (fun as => F_is_repeat_proof (as ++ [])) (oCons (oV 2) (oCons (oV 3) (oCons (oV 4) (oCons (oV 5) oNil))))) (oCons (oV 19) oNil))))))))))))))))))))))))
end LL
set_option Elab.async false
set_option linter.all false
set_option maxRecDepth 100000
set_option maxHeartbeats 4000000
set_option autoImplicit false
/-! law walked (printed by gen5.py). -/
namespace LL
open PySem PySem.Spec PyProof.Rows L2
variable [Wd]
section
variable {P : Program} {w : World} {K : PySem.W.Frag} {mg : Str → Option Value} {base : Heap} {Ps : List Addr}
theorem sc_law : FnScope N_law ["_law_script"] (defScope st_law) := ⟨rfl, rfl, rfl, by decide +kernel, rfl, by decide +kernel, by decide +kernel⟩
theorem bk_law_0 : BlkOk N_law (defScope st_law) ({ kind := PySem.ScopeKind.function, names := [(PySem.Str.ofString ".0", PySem.NameKind.local), (PySem.Str.ofString "_law_cell", PySem.NameKind.local), (PySem.Str.ofString "_law_taken", PySem.NameKind.globalImplicit), (PySem.Str.ofString "_law_held", PySem.NameKind.free), (PySem.Str.ofString "_law_row", PySem.NameKind.free)], isGenerator := false, isCoroutine := false, more := [] } : Scope) own_law_0 := ⟨rfl, by decide +kernel, by decide +kernel, by decide +kernel, by decide +kernel⟩
theorem bk_law_1 : BlkOk N_law (defScope st_law) ({ kind := PySem.ScopeKind.function, names := [(PySem.Str.ofString ".0", PySem.NameKind.local), (PySem.Str.ofString "_law_losses", PySem.NameKind.local), (PySem.Str.ofString "_law_ran", PySem.NameKind.globalImplicit), (PySem.Str.ofString "_law_machine_here", PySem.NameKind.free), (PySem.Str.ofString "_law_moment", PySem.NameKind.free), (PySem.Str.ofString "_law_program_here", PySem.NameKind.free)], isGenerator := false, isCoroutine := false, more := [] } : Scope) own_law_1 := ⟨rfl, by decide +kernel, by decide +kernel, by decide +kernel, by decide +kernel⟩
theorem bk_law_2 : BlkOk N_law (defScope st_law) ({ kind := PySem.ScopeKind.function, names := [(PySem.Str.ofString ".0", PySem.NameKind.local), (PySem.Str.ofString "_law_held", PySem.NameKind.local), (PySem.Str.ofString "_law_cell", PySem.NameKind.free)], isGenerator := false, isCoroutine := false, more := [] } : Scope) own_law_2 := ⟨rfl, by decide +kernel, by decide +kernel, by decide +kernel, by decide +kernel⟩
theorem bk_law_3 : BlkOk N_law (defScope st_law) ({ kind := PySem.ScopeKind.function, names := [(PySem.Str.ofString ".0", PySem.NameKind.local), (PySem.Str.ofString "_law_losses", PySem.NameKind.local), (PySem.Str.ofString "_law_bad", PySem.NameKind.globalImplicit), (PySem.Str.ofString "_law_machine_here", PySem.NameKind.free), (PySem.Str.ofString "_law_program_here", PySem.NameKind.free), (PySem.Str.ofString "_law_wishes_here", PySem.NameKind.free)], isGenerator := false, isCoroutine := false, more := [] } : Scope) own_law_3 := ⟨rfl, by decide +kernel, by decide +kernel, by decide +kernel, by decide +kernel⟩
theorem bk_law_4 : BlkOk N_law (defScope st_law) ({ kind := PySem.ScopeKind.function, names := [(PySem.Str.ofString ".0", PySem.NameKind.local), (PySem.Str.ofString "_law_losses", PySem.NameKind.local), (PySem.Str.ofString "len", PySem.NameKind.globalImplicit)], isGenerator := false, isCoroutine := false, more := [] } : Scope) own_law_4 := ⟨rfl, by decide +kernel, by decide +kernel, by decide +kernel, by decide +kernel⟩
theorem bk_law_5 : BlkOk N_law (defScope st_law) ({ kind := PySem.ScopeKind.function, names := [(PySem.Str.ofString ".0", PySem.NameKind.local), (PySem.Str.ofString "_law_one", PySem.NameKind.local), (PySem.Str.ofString "isinstance", PySem.NameKind.globalImplicit), (PySem.Str.ofString "bool", PySem.NameKind.globalImplicit)], isGenerator := false, isCoroutine := false, more := [] } : Scope) own_law_5 := ⟨rfl, by decide +kernel, by decide +kernel, by decide +kernel, by decide +kernel⟩
theorem bk_law_6 : BlkOk N_law (defScope st_law) ({ kind := PySem.ScopeKind.function, names := [(PySem.Str.ofString ".0", PySem.NameKind.local), (PySem.Str.ofString "_law_held", PySem.NameKind.local), (PySem.Str.ofString "max", PySem.NameKind.globalImplicit)], isGenerator := false, isCoroutine := false, more := [] } : Scope) own_law_6 := ⟨rfl, by decide +kernel, by decide +kernel, by decide +kernel, by decide +kernel⟩
theorem bk_law_7 : BlkOk N_law (relS ({ kind := PySem.ScopeKind.function, names := [(PySem.Str.ofString ".0", PySem.NameKind.local), (PySem.Str.ofString "_law_held", PySem.NameKind.local), (PySem.Str.ofString "max", PySem.NameKind.globalImplicit)], isGenerator := false, isCoroutine := false, more := [] } : Scope) (defScope st_law)) ({ kind := PySem.ScopeKind.function, names := [(PySem.Str.ofString ".0", PySem.NameKind.local), (PySem.Str.ofString "_law_term", PySem.NameKind.local), (PySem.Str.ofString "_law_deep", PySem.NameKind.globalImplicit)], isGenerator := false, isCoroutine := false, more := [] } : Scope) own_law_7 := ⟨rfl, by decide +kernel, by decide +kernel, by decide +kernel, by decide +kernel⟩
theorem bk_law_8 : BlkOk N_law (defScope st_law) ({ kind := PySem.ScopeKind.function, names := [(PySem.Str.ofString ".0", PySem.NameKind.local), (PySem.Str.ofString "_law_held", PySem.NameKind.cell), (PySem.Str.ofString "_law_wishes_here", PySem.NameKind.free)], isGenerator := false, isCoroutine := false, more := [] } : Scope) own_law_8 := ⟨rfl, by decide +kernel, by decide +kernel, by decide +kernel, by decide +kernel⟩
theorem bk_law_9 : BlkOk N_law (relS ({ kind := PySem.ScopeKind.function, names := [(PySem.Str.ofString ".0", PySem.NameKind.local), (PySem.Str.ofString "_law_held", PySem.NameKind.cell), (PySem.Str.ofString "_law_wishes_here", PySem.NameKind.free)], isGenerator := false, isCoroutine := false, more := [] } : Scope) (defScope st_law)) ({ kind := PySem.ScopeKind.function, names := [(PySem.Str.ofString ".0", PySem.NameKind.local), (PySem.Str.ofString "_law_cell", PySem.NameKind.local), (PySem.Str.ofString "_law_term", PySem.NameKind.local), (PySem.Str.ofString "_law_held", PySem.NameKind.free)], isGenerator := false, isCoroutine := false, more := [] } : Scope) own_law_9 := ⟨rfl, by decide +kernel, by decide +kernel, by decide +kernel, by decide +kernel⟩
theorem ok_law (G : Glo mg) (hw : w = Wd.w) (D_law : DefAt K mg "law" st_law) (D_sure_terms : DefAt K mg "sure_terms" st_sure_terms) (h_sure_terms : FnOk P w K mg base CX0 21 D_sure_terms.f D_sure_terms.fd ["machine", "program", "many"] (spD Ps F_sure_terms)) (D_is_proof : DefAt K mg "is_proof" st_is_proof) (h_is_proof : FnOk P w K mg base CX0 24 D_is_proof.f D_is_proof.fd ["machine", "program", "many", "wishes"] (spD Ps F_is_proof)) (D_harm : DefAt K mg "harm" st_harm) (h_harm : FnOk P w K mg base CX0 24 D_harm.f D_harm.fd ["machine", "program", "many", "wishes"] (spD Ps F_harm)) (D_shows_harm : DefAt K mg "shows_harm" st_shows_harm) (h_shows_harm : FnOk P w K mg base CX0 24 D_shows_harm.f D_shows_harm.fd ["machine", "program", "many", "wishes", "value"] (spD Ps F_shows_harm)) (D_is_repeat_proof : DefAt K mg "is_repeat_proof" st_is_repeat_proof) (h_is_repeat_proof : FnOk P w K mg base CX0 23 D_is_repeat_proof.f D_is_repeat_proof.fd ["machine", "program", "many", "wishes"] (spD Ps F_is_repeat_proof)) (D_law_taken : DefAt K mg "_law_taken" st_law_taken) (h_law_taken : FnOk P w K mg base CX0 1 D_law_taken.f D_law_taken.fd ["_law_row", "_law_many"] (spR K Ps FF_law_taken)) (D_law_machine : DefAt K mg "_law_machine" st_law_machine) (h_law_machine : FnOk P w K mg base CX0 2 D_law_machine.f D_law_machine.fd ["_law_row"] (spR K Ps FF_law_machine)) (D_law_deep : DefAt K mg "_law_deep" st_law_deep) (h_law_deep : FnOk P w K mg base CX0 12 D_law_deep.f D_law_deep.fd ["_law_term"] (spD Ps (F_law_deep 12))) (D_law_tame : DefAt K mg "_law_tame" st_law_tame) (h_law_tame : FnOk P w K mg base CX0 13 D_law_tame.f D_law_tame.fd ["_law_machine_here", "_law_program_here"] (spD Ps F_law_tame)) (D_law_pick : DefAt K mg "_law_pick" st_law_pick) (h_law_pick : FnOk P w K mg base CX0 2 D_law_pick.f D_law_pick.fd ["_law_row", "_law_things"] (spR K Ps FF_law_pick)) (D_law_program : DefAt K mg "_law_program" st_law_program) (h_law_program : FnOk P w K mg base CX0 3 D_law_program.f D_law_program.fd ["_law_row", "_law_machine_here", "_law_many"] (spR K Ps FF_law_program)) (D_law_times : DefAt K mg "_law_times" st_law_times) (h_law_times : FnOk P w K mg base CX0 1 D_law_times.f D_law_times.fd ["_law_program_here", "_law_many"] (spD Ps F_law_times)) (D_law_ran : DefAt K mg "_law_ran" st_law_ran) (h_law_ran : FnOk P w K mg base CX0 13 D_law_ran.f D_law_ran.fd ["_law_machine_here", "_law_program_here", "_law_losses"] (spD Ps F_law_ran)) (D_law_wishes : DefAt K mg "_law_wishes" st_law_wishes) (h_law_wishes : FnOk P w K mg base CX0 14 D_law_wishes.f D_law_wishes.fd ["_law_row", "_law_machine_here"] (spR K Ps FF_law_wishes)) (D_law_every_loss : DefAt K mg "_law_every_loss" st_law_every_loss) (h_law_every_loss : FnOk P w K mg base CX0 1 D_law_every_loss.f D_law_every_loss.fd ["_law_size", "_law_many"] (spD Ps F_law_every_loss)) (D_law_alike : DefAt K mg "_law_alike" st_law_alike) (h_law_alike : FnOk P w K mg base CX0 12 D_law_alike.f D_law_alike.fd ["_law_found", "_law_due"] (spD Ps (F_law_alike 12))) (D_law_bad : DefAt K mg "_law_bad" st_law_bad) (h_law_bad : FnOk P w K mg base CX0 14 D_law_bad.f D_law_bad.fd ["_law_machine_here", "_law_program_here", "_law_losses", "_law_wishes_here"] (spD Ps F_law_bad)) (D_law_repeats : DefAt K mg "_law_repeats" st_law_repeats) (h_law_repeats : FnOk P w K mg base CX0 2 D_law_repeats.f D_law_repeats.fd ["_law_machine_here", "_law_program_here", "_law_many"] (spD Ps F_law_repeats))
    (hS : W_law (List.replicate 23 none) [(1, .row)] fun o => ∃ M, o = .rt (.bool true) M) : FnOk P w K mg base CX0 25 D_law.f D_law.fd ["_law_script"] (spLaw K Ps) := by
  refine fd_ok (N := N_law) (k := 24) D_law.ok sc_law (fun vs H Q E ⟨a, ns, e, _⟩ => by rw [e]; rfl) fun A outer s H vs Q E hr ⟨a, ns, e, hs, ok, q⟩ => ?_
  subst e
  conv => arg 1; ext; arg 1; arg 2; whnf
  refine ⟨_, pss_cons (ps_set (i := 1) sc_law.nd rfl (by first | exact Or.inl rfl | exact Or.inr rfl) (pe_lst (pa_cons (pv 0) (pa_cons pe_int (pa_cons pe_int (pa_cons pe_int pa_nil)))))) (pss_kf (pss_exF (K := K) (Ps := Ps) (S := W_law) fun F => (mss_cons (msm_set (i := 2) sc_law.nd rfl (by first | exact Or.inl rfl | exact Or.inr rfl) (me_callR (ir := 1) rfl h_law_machine (hr.mono (by omega)) rfl D_law_machine.m D_law_machine.ok.kp (bi_law_machine D_law_machine) (pv 1) pda_nil))
    (mss_cons (msm_asg (me_tup (ma_cons (me_callP rfl h_law_tame (hr.mono (by omega)) rfl D_law_tame.m D_law_tame.ok.kp (bi_law_tame D_law_tame) (ma_cons (me_pure rfl (pd_name 2 (pv 2))) (ma_cons (me_callR (ir := 1) rfl h_law_program (hr.mono (by omega)) rfl D_law_program.m D_law_program.ok.kp (bi_law_program D_law_program) (pv 1) (pda_cons (pd_name 2 (pv 2)) (pda_cons pd_int pda_nil))) ma_nil))) (ma_cons (me_addC (me_callR (ir := 1) rfl h_law_taken (hr.mono (by omega)) rfl D_law_taken.m D_law_taken.ok.kp (bi_law_taken D_law_taken) (pv 1) (pda_cons pd_int pda_nil))) ma_nil))) (pg_tup rfl (pgs_cons (pg_name (i := 3) sc_law.nd rfl (by first | exact Or.inl rfl | exact Or.inr rfl)) (pgs_cons (pg_name (i := 4) sc_law.nd rfl (by first | exact Or.inl rfl | exact Or.inr rfl)) pgs_nil))) (ownm_tup (ownm_cons (ownm_name (by decide)) (ownm_cons (ownm_name (by decide)) ownm_nil))))
    (mss_cons (msm_if (mt_eqC (me_callR (ir := 1) rfl h_law_taken (hr.mono (by omega)) rfl D_law_taken.m D_law_taken.ok.kp (bi_law_taken D_law_taken) (pv 1) (pda_cons pd_int pda_nil))) (mss_one (msm_set (i := 3) sc_law.nd rfl (by first | exact Or.inl rfl | exact Or.inr rfl) (me_pure rfl (pd_call h_law_tame (hr.mono (by omega)) rfl D_law_tame.m D_law_tame.ok.kp (bi_law_tame D_law_tame) .nil (fun _ => .nil) (pda_cons (pd_name 2 (pv 2)) (pda_cons (pd_call h_law_times (hr.mono (by omega)) rfl D_law_times.m D_law_times.ok.kp (bi_law_times D_law_times) .nil (fun _ => .nil) (pda_cons (pd_name 3 (pv 3)) (pda_cons pd_int pda_nil))) pda_nil)))))) mss_nil)
    (mss_cons (msm_set (i := 5) sc_law.nd rfl (by first | exact Or.inl rfl | exact Or.inr rfl) (me_callR (ir := 1) rfl h_law_wishes (hr.mono (by omega)) rfl D_law_wishes.m D_law_wishes.ok.kp (bi_law_wishes D_law_wishes) (pv 1) (pda_cons (pd_name 2 (pv 2)) pda_nil)))
    (mss_cons (msm_if (mt_gtC (me_callR (ir := 1) rfl h_law_taken (hr.mono (by omega)) rfl D_law_taken.m D_law_taken.ok.kp (bi_law_taken D_law_taken) (pv 1) (pda_cons pd_int pda_nil))) (mss_cons (msm_set (i := 6) sc_law.nd rfl (by first | exact Or.inl rfl | exact Or.inr rfl) (me_pure rfl (pd_call h_law_ran (hr.mono (by omega)) rfl D_law_ran.m D_law_ran.ok.kp (bi_law_ran D_law_ran) .nil (fun _ => .nil) (pda_cons (pd_name 2 (pv 2)) (pda_cons (pd_name 3 (pv 3)) (pda_cons (pd_tup pda_nil) pda_nil))))))
    (mss_one (msm_set (i := 5) sc_law.nd rfl (by first | exact Or.inl rfl | exact Or.inr rfl) (me_tuple rfl G.tuple (me_lc rfl sc_law.nd (mi_pure (pii_rg1 rfl G.range (pd_ix (pd_name 2 (pv 2)) pd_int))) bk_law_0 (fun _ _ _ _ _ => (pg_name (i := 7) sc_law.nd rfl (by first | exact Or.inl rfl | exact Or.inr rfl))) (ownm_name (by decide)) (fun _ _ _ _ _ _ => (mts_one (PW.pt (mw_or (mt_eqC (me_callR (ir := 1) rfl h_law_taken (hr.mono (by omega)) rfl D_law_taken.m D_law_taken.ok.kp (bi_law_taken D_law_taken) (pv 1) (pda_cons pd_int pda_nil))) (mw_or1 (mt_pure (pdt_cm (cd_eq (u64 hr)) (pd_name 7 (pv 7)) pd_int rfl))))))) (fun _ _ _ _ _ _ => (me_pure rfl (pd_tup (pda_cons (pd_name 7 (pv 7)) (pda_cons (pd_ix (pd_name 6 (pv 6)) (pd_name 7 (pv 7))) pda_nil)))))))))) mss_nil)
    (mss_cons (msm_set (i := 8) sc_law.nd rfl (by first | exact Or.inl rfl | exact Or.inr rfl) (me_pure rfl (pd_call h_sure_terms (hr.mono (by omega)) rfl D_sure_terms.m D_sure_terms.ok.kp (bi_sure_terms D_sure_terms) .nil (fun _ => .nil) (pda_cons (pd_name 2 (pv 2)) (pda_cons (pd_name 3 (pv 3)) (pda_cons (pd_name 4 (pv 4)) pda_nil))))))
    (mss_cons (msm_if (mt_pure (pdt_cm (cd_ne (u64 hr)) (pd_len rfl G.len (pd_name 8 (pv 8))) (pd_add (pd_len rfl G.len (pd_name 3 (pv 3))) pd_int) rfl)) (mss_one (msm_ret (me_pure rfl pd_bl))) mss_nil)
    (mss_cons (msm_for PassesOwn.never rfl (pii_rg1 rfl G.range (pd_add (pd_len rfl G.len (pd_name 3 (pv 3))) pd_int)) (pg_name (i := 9) sc_law.nd rfl (by first | exact Or.inl rfl | exact Or.inr rfl)) (ownm_name (by decide)) (fun F _ _ => (mss_cons (msm_setLcP (i := 10) rfl rfl sc_law.nd rfl rfl rfl (pid_lst (pd_call h_law_every_loss (hr.mono (by omega)) rfl D_law_every_loss.m D_law_every_loss.ok.kp (bi_law_every_loss D_law_every_loss) .nil (fun _ => .nil) (pda_cons (pd_name 9 (pv 9)) (pda_cons (pd_name 4 (pv 4)) pda_nil)))) bk_law_1 (fun _ _ _ _ _ => (pg_name (i := 20) sc_law.nd rfl (by first | exact Or.inl rfl | exact Or.inr rfl))) (own_name (by decide)) (fun _ _ _ _ _ => ptsd_nil) (fun _ _ _ _ _ => (pd_call h_law_ran (hr.mono (by omega)) rfl D_law_ran.m D_law_ran.ok.kp (bi_law_ran D_law_ran) .nil (fun _ => .nil) (pda_cons (pd_name 2 (pv 2)) (pda_cons (pd_slice (pd_name 3 (pv 3)) pdo_none (pdo_some (pd_name 9 (pv 9)))) (pda_cons (pd_name 20 (pv 20)) pda_nil))))))
    (mss_cons (msm_if (mt_pure (pdt_cm (cd_in (u65 hr)) pd_non (pd_name 10 (pv 10)) rfl)) (mss_one (msm_ret (me_pure rfl pd_bl))) mss_nil)
    (mss_one (msm_for PassesOwn.never rfl (pii_rg1 rfl G.range (pd_ix (pd_name 2 (pv 2)) pd_int)) (pg_name (i := 7) sc_law.nd rfl (by first | exact Or.inl rfl | exact Or.inr rfl)) (ownm_name (by decide)) (fun F _ _ => (mss_cons (msm_setLcP (i := 11) rfl rfl sc_law.nd rfl rfl rfl (pid_lst (pd_name 10 (pv 10))) bk_law_2 (fun _ _ _ _ _ => (pg_name (i := 6) sc_law.nd rfl (by first | exact Or.inl rfl | exact Or.inr rfl))) (own_name (by decide)) (fun _ _ _ _ _ => ptsd_nil) (fun _ _ _ _ _ => (pd_ix (pd_name 6 (pv 6)) (pd_name 7 (pv 7)))))
    (mss_one (msm_if (mt_pure (pdt_not (pdt_b (pd_asB (pd_call h_law_alike (hr.mono (by omega)) rfl D_law_alike.m D_law_alike.ok.kp (bi_law_alike D_law_alike) .nil (fun _ => .nil) (pda_cons (pd_ix (pd_ix (pd_name 8 (pv 8)) (pd_name 9 (pv 9))) (pd_name 7 (pv 7))) (pda_cons (pd_if (pdt_cm (cd_eq (u64 hr)) (pd_name 11 (pv 11)) (pd_mul (pd_lst (pda_cons (pd_ix (pd_name 11 (pv 11)) pd_int) pda_nil)) (pd_len rfl G.len (pd_name 11 (pv 11)))) rfl) (pd_ix (pd_name 11 (pv 11)) pd_int) pd_non) pda_nil))))))) (mss_one (msm_ret (me_pure rfl pd_bl))) mss_nil))))))))))
    (mss_cons (msm_set (i := 12) sc_law.nd rfl (by first | exact Or.inl rfl | exact Or.inr rfl) (me_pure rfl (pd_call h_law_every_loss (hr.mono (by omega)) rfl D_law_every_loss.m D_law_every_loss.ok.kp (bi_law_every_loss D_law_every_loss) .nil (fun _ => .nil) (pda_cons (pd_len rfl G.len (pd_name 3 (pv 3))) (pda_cons (pd_name 4 (pv 4)) pda_nil)))))
    (mss_cons (msm_setLcP (i := 13) rfl rfl sc_law.nd rfl rfl rfl (pid_lst (pd_name 12 (pv 12))) bk_law_3 (fun _ _ _ _ _ => (pg_name (i := 20) sc_law.nd rfl (by first | exact Or.inl rfl | exact Or.inr rfl))) (own_name (by decide)) (fun _ _ _ _ _ => (ptsd_one (pdt_b (pd_asB (pd_call h_law_bad (hr.mono (by omega)) rfl D_law_bad.m D_law_bad.ok.kp (bi_law_bad D_law_bad) .nil (fun _ => .nil) (pda_cons (pd_name 2 (pv 2)) (pda_cons (pd_name 3 (pv 3)) (pda_cons (pd_name 20 (pv 20)) (pda_cons (pd_name 5 (pv 5)) pda_nil))))))))) (fun _ _ _ _ _ => (pd_name 20 (pv 20))))
    (mss_cons (msm_set (i := 14) sc_law.nd rfl (by first | exact Or.inl rfl | exact Or.inr rfl) (me_pure rfl (pd_min rfl rfl G.min (pd_add (pd_lc rfl sc_law.nd (pid_lst (pd_name 13 (pv 13))) bk_law_4 (fun _ _ _ _ _ => (pg_name (i := 20) sc_law.nd rfl (by first | exact Or.inl rfl | exact Or.inr rfl))) (own_name (by decide)) (fun _ _ _ _ _ => ptsd_nil) (fun _ _ _ _ _ => (pd_len rfl G.len (pd_name 20 (pv 20))))) (pd_lst (pda_cons pd_int pda_nil))))))
    (mss_cons (msm_if (mt_pure (pdt_not (pdt_b (pd_asB (pd_call h_law_alike (hr.mono (by omega)) rfl D_law_alike.m D_law_alike.ok.kp (bi_law_alike D_law_alike) .nil (fun _ => .nil) (pda_cons (pd_call h_is_proof (hr.mono (by omega)) rfl D_is_proof.m D_is_proof.ok.kp (bi_is_proof D_is_proof) .nil (fun _ => .nil) (pda_cons (pd_name 2 (pv 2)) (pda_cons (pd_name 3 (pv 3)) (pda_cons (pd_name 4 (pv 4)) (pda_cons (pd_name 5 (pv 5)) pda_nil))))) (pda_cons (pd_cm (cd_eq (u64 hr)) (pd_name 13 (pv 13)) (pd_lst pda_nil) rfl) pda_nil))))))) (mss_one (msm_ret (me_pure rfl pd_bl))) mss_nil)
    (mss_cons (msm_set (i := 15) sc_law.nd rfl (by first | exact Or.inl rfl | exact Or.inr rfl) (me_pure rfl (pd_call h_harm (hr.mono (by omega)) rfl D_harm.m D_harm.ok.kp (bi_harm D_harm) .nil (fun _ => .nil) (pda_cons (pd_name 2 (pv 2)) (pda_cons (pd_name 3 (pv 3)) (pda_cons (pd_name 4 (pv 4)) (pda_cons (pd_name 5 (pv 5)) pda_nil)))))))
    (mss_cons (msm_if (mt_pure (PW.pt (pdw_or (pdt_cm (cd_ne (u64 hr)) (pd_cm cd_is (pd_name 15 (pv 15)) pd_non rfl) (pd_cm (cd_eq (u64 hr)) (pd_name 13 (pv 13)) (pd_lst pda_nil) rfl) rfl) (pdw_or1 (PW.pt (pdw_and (pdt_cm cd_isnot (pd_name 15 (pv 15)) pd_non rfl) (pdw_and1 (PW.pt (pdw_or (pdt_cm (cd_notin (u65 hr)) (pd_name 15 (pv 15)) (pd_name 13 (pv 13)) rfl) (pdw_or1 (pdt_cm (cd_ne (u64 hr)) (pd_len rfl G.len (pd_name 15 (pv 15))) (pd_name 14 (pv 14)) rfl))))))))))) (mss_one (msm_ret (me_pure rfl pd_bl))) mss_nil)
    (mss_cons (msm_for PassesOwn.never rfl (pii_rg1 rfl G.range pd_int) (pg_name (i := 16) sc_law.nd rfl (by first | exact Or.inl rfl | exact Or.inr rfl)) (ownm_name (by decide)) (fun F _ _ => (mss_cons (msm_set (i := 17) sc_law.nd rfl (by first | exact Or.inl rfl | exact Or.inr rfl) (me_callR (ir := 1) rfl h_law_pick (hr.mono (by omega)) rfl D_law_pick.m D_law_pick.ok.kp (bi_law_pick D_law_pick) (pv 1) (pda_cons (pd_add (pd_name 12 (pv 12)) (pd_mul (pd_lst (pda_cons (pd_name 15 (pv 15)) pda_nil)) pd_int)) pda_nil)))
    (mss_cons (msm_set (i := 17) sc_law.nd rfl (by first | exact Or.inl rfl | exact Or.inr rfl) (me_callR (ir := 1) rfl h_law_pick (hr.mono (by omega)) rfl D_law_pick.m D_law_pick.ok.kp (bi_law_pick D_law_pick) (pv 1) (pda_cons (pd_add (pd_mul (pd_lst (pda_cons (pd_name 17 (pv 17)) pda_nil)) pd_int) (pd_lst (pda_cons pd_non (pda_cons (pd_dict0 rfl) (pda_cons (pd_lst0 (pda_cons pd_int pda_nil)) (pda_cons (pd_tup (pda_cons pd_int (pda_cons pd_int pda_nil))) (pda_cons (pd_tup (pda_cons pd_bl pda_nil)) (pda_cons (pd_tup (pda_cons pd_int pda_nil)) (pda_cons (pd_rg1 rfl rfl G.tuple rfl G.range (pd_add (pd_name 4 (pv 4)) pd_int)) pda_nil))))))))) pda_nil)))
    (mss_cons (msm_set (i := 18) sc_law.nd rfl (by first | exact Or.inl rfl | exact Or.inr rfl) (me_pure rfl (pd_and (pd_isa rfl G.isinstance rfl G.tuple (pd_name 17 (pv 17))) (pd_and (pd_cm (cd_in (u65 hr)) (pd_name 17 (pv 17)) (pd_name 13 (pv 13)) rfl) (pd_one (pd_cm (cd_eq (u64 hr)) (pd_len rfl G.len (pd_name 17 (pv 17))) (pd_name 14 (pv 14)) rfl))))))
    (mss_cons (msm_set (i := 18) sc_law.nd rfl (by first | exact Or.inl rfl | exact Or.inr rfl) (me_pure rfl (pd_and (pd_asB (pd_name 18 (pv 18))) (pd_one (pd_cm (cd_eq (u64 hr)) (pd_lc rfl sc_law.nd (pid_tup (pd_name 17 (pv 17))) bk_law_5 (fun _ _ _ _ _ => (pg_name (i := 21) sc_law.nd rfl (by first | exact Or.inl rfl | exact Or.inr rfl))) (own_name (by decide)) (fun _ _ _ _ _ => (ptsd_one (pdt_b (pd_isa rfl G.isinstance rfl G.bool (pd_name 21 (pv 21)))))) (fun _ _ _ _ _ => (pd_name 21 (pv 21)))) (pd_lst pda_nil) rfl)))))
    (mss_cons (msm_if (mt_pure (pdt_cm cd_is (pd_name 17 (pv 17)) pd_non rfl)) (mss_one (msm_set (i := 18) sc_law.nd rfl (by first | exact Or.inl rfl | exact Or.inr rfl) (me_pure rfl (pd_cm (cd_eq (u64 hr)) (pd_name 13 (pv 13)) (pd_lst pda_nil) rfl)))) mss_nil)
    (mss_one (msm_if (mt_pure (pdt_not (pdt_b (pd_asB (pd_call h_law_alike (hr.mono (by omega)) rfl D_law_alike.m D_law_alike.ok.kp (bi_law_alike D_law_alike) .nil (fun _ => .nil) (pda_cons (pd_call h_shows_harm (hr.mono (by omega)) rfl D_shows_harm.m D_shows_harm.ok.kp (bi_shows_harm D_shows_harm) .nil (fun _ => .nil) (pda_cons (pd_name 2 (pv 2)) (pda_cons (pd_name 3 (pv 3)) (pda_cons (pd_name 4 (pv 4)) (pda_cons (pd_name 5 (pv 5)) (pda_cons (pd_name 17 (pv 17)) pda_nil)))))) (pda_cons (pd_name 18 (pv 18)) pda_nil))))))) (mss_one (msm_ret (me_pure rfl pd_bl))) mss_nil)))))))))
    (mss_cons (msm_if (mt_pure (pdt_cm cd_gt (pd_mul (pd_max rfl rfl G.max (pd_add (pd_lst (pda_cons (pd_len rfl G.len (pd_name 3 (pv 3))) pda_nil)) (pd_lst (pda_cons pd_int pda_nil)))) (pd_name 4 (pv 4))) pd_int rfl)) (mss_one (msm_ret (me_pure rfl pd_bl))) mss_nil)
    (mss_cons (msm_set (i := 10) sc_law.nd rfl (by first | exact Or.inl rfl | exact Or.inr rfl) (me_pure rfl (pd_call h_law_repeats (hr.mono (by omega)) rfl D_law_repeats.m D_law_repeats.ok.kp (bi_law_repeats D_law_repeats) .nil (fun _ => .nil) (pda_cons (pd_name 2 (pv 2)) (pda_cons (pd_name 3 (pv 3)) (pda_cons (pd_name 4 (pv 4)) pda_nil))))))
    (mss_cons (msm_if (mt_pure (pdt_cm (cd_ne (u64 hr)) (pd_lc rfl sc_law.nd (pid_lst (pd_name 10 (pv 10))) bk_law_6 (fun _ _ _ _ _ => (pg_name (i := 6) sc_law.nd rfl (by first | exact Or.inl rfl | exact Or.inr rfl))) (own_name (by decide)) (fun _ _ _ _ _ => (ptsd_one (pdt_cm cd_gt (pd_max rfl rfl G.max (pd_lc rfl sc_law.nd (pid_tup (pd_name 6 (pv 6))) bk_law_7 (fun _ _ _ _ _ => (pg_name (i := 22) sc_law.nd rfl (by first | exact Or.inl rfl | exact Or.inr rfl))) (own_name (by decide)) (fun _ _ _ _ _ => ptsd_nil) (fun _ _ _ _ _ => (pd_call h_law_deep (hr.mono (by omega)) rfl D_law_deep.m D_law_deep.ok.kp (bi_law_deep D_law_deep) .nil (fun _ => .nil) (pda_cons (pd_name 22 (pv 22)) pda_nil))))) pd_int rfl))) (fun _ _ _ _ _ => pd_int)) (pd_lst pda_nil) rfl)) (mss_one (msm_ret (me_pure rfl pd_bl))) mss_nil)
    (mss_cons (msm_set (i := 19) sc_law.nd rfl (by first | exact Or.inl rfl | exact Or.inr rfl) (me_pure rfl (pd_cm (cd_eq (u64 hr)) (pd_lc rfl sc_law.nd (pid_lst (pd_name 10 (pv 10))) bk_law_8 (fun _ _ _ _ _ => (pg_name (i := 6) sc_law.nd rfl (by first | exact Or.inl rfl | exact Or.inr rfl))) (own_name (by decide)) (fun _ _ _ _ _ => (ptsd_one (pdt_cm (cd_ne (u64 hr)) (pd_lc rfl sc_law.nd (pid_tup (pd_name 5 (pv 5))) bk_law_9 (fun _ _ _ _ _ => (pg_tup rfl (pgs_cons (pg_name (i := 7) sc_law.nd rfl (by first | exact Or.inl rfl | exact Or.inr rfl)) (pgs_cons (pg_name (i := 22) sc_law.nd rfl (by first | exact Or.inl rfl | exact Or.inr rfl)) pgs_nil)))) (own_tup (own_cons (own_name (by decide)) (own_cons (own_name (by decide)) own_nil))) (fun _ _ _ _ _ => (ptsd_one (pdt_cm (cd_ne (u64 hr)) (pd_ix (pd_name 6 (pv 6)) (pd_name 7 (pv 7))) (pd_name 22 (pv 22)) rfl))) (fun _ _ _ _ _ => pd_int)) (pd_lst pda_nil) rfl))) (fun _ _ _ _ _ => (pd_name 6 (pv 6)))) (pd_lst pda_nil) rfl)))
    (mss_one (msm_ret (me_pure rfl (pd_call h_law_alike (hr.mono (by omega)) rfl D_law_alike.m D_law_alike.ok.kp (bi_law_alike D_law_alike) .nil (fun _ => .nil) (pda_cons (pd_call h_is_repeat_proof (hr.mono (by omega)) rfl D_is_repeat_proof.m D_is_repeat_proof.ok.kp (bi_is_repeat_proof D_is_repeat_proof) .nil (fun _ => .nil) (pda_cons (pd_name 2 (pv 2)) (pda_cons (pd_name 3 (pv 3)) (pda_cons (pd_name 4 (pv 4)) (pda_cons (pd_name 5 (pv 5)) pda_nil))))) (pda_cons (pd_name 19 (pv 19)) pda_nil))))))))))))))))))))))))))), ?_⟩
  exact law_start hs ok hS q

end
end LL
set_option Elab.async false
set_option linter.all false
set_option maxRecDepth 100000
set_option maxHeartbeats 4000000
set_option autoImplicit false
/-! The plain law: the small defs on good data. -/
namespace LL
open PySem PySem.Spec PyProof.Rows L2
/-! ### isinstance -/
def kt (a b : String) : Bool := a == b || (a == "bool" && b == "int")
theorem isa_t {d : PyData} {T : String} {b : Bool} (hk : kindD d ≠ "?") (h : kitB (kindD d) T = some b) : isaD T d = some b := by
  unfold isaD
  rw [if_neg hk]
  exact h
theorem kit_ii : kitB "int" "int" = some true := by decide +kernel
theorem kit_bi : kitB "bool" "int" = some true := by decide +kernel
theorem kit_ni : kitB "NoneType" "int" = some false := by decide +kernel
theorem kit_ti : kitB "tuple" "int" = some false := by decide +kernel
theorem kit_ib : kitB "int" "bool" = some false := by decide +kernel
theorem kit_bb : kitB "bool" "bool" = some true := by decide +kernel
theorem kit_nb : kitB "NoneType" "bool" = some false := by decide +kernel
theorem kit_tb : kitB "tuple" "bool" = some false := by decide +kernel
theorem kit_it : kitB "int" "tuple" = some false := by decide +kernel
theorem kit_bt : kitB "bool" "tuple" = some false := by decide +kernel
theorem kit_nt : kitB "NoneType" "tuple" = some false := by decide +kernel
theorem kit_tt : kitB "tuple" "tuple" = some true := by decide +kernel
theorem kit_lt : kitB "list" "tuple" = some false := by decide +kernel
theorem kit_dt : kitB "dict" "tuple" = some false := by decide +kernel
theorem kit_il : kitB "int" "list" = some false := by decide +kernel
theorem kit_bl : kitB "bool" "list" = some false := by decide +kernel
theorem kit_nl : kitB "NoneType" "list" = some false := by decide +kernel
theorem kit_tl : kitB "tuple" "list" = some false := by decide +kernel
theorem kit_is : kitB "int" "str" = some false := by decide +kernel
theorem kit_bs : kitB "bool" "str" = some false := by decide +kernel
theorem kit_ns : kitB "NoneType" "str" = some false := by decide +kernel
theorem kit_ts : kitB "tuple" "str" = some false := by decide +kernel
@[simp] theorem isa_int_i (v : Int) : isaD "int" (.int v) = some true := isa_t (by simp [kindD]) kit_ii
@[simp] theorem isa_int_b (v : Bool) : isaD "int" (.bool v) = some true := isa_t (by simp [kindD]) kit_bi
@[simp] theorem isa_int_n : isaD "int" .none = some false := isa_t (by simp [kindD]) kit_ni
@[simp] theorem isa_int_t (l : List PyData) : isaD "int" (.tuple l) = some false := isa_t (by simp [kindD]) kit_ti
@[simp] theorem isa_bool_i (v : Int) : isaD "bool" (.int v) = some false := isa_t (by simp [kindD]) kit_ib
@[simp] theorem isa_bool_b (v : Bool) : isaD "bool" (.bool v) = some true := isa_t (by simp [kindD]) kit_bb
@[simp] theorem isa_bool_n : isaD "bool" .none = some false := isa_t (by simp [kindD]) kit_nb
@[simp] theorem isa_bool_t (l : List PyData) : isaD "bool" (.tuple l) = some false := isa_t (by simp [kindD]) kit_tb
@[simp] theorem isa_tup_i (v : Int) : isaD "tuple" (.int v) = some false := isa_t (by simp [kindD]) kit_it
@[simp] theorem isa_tup_b (v : Bool) : isaD "tuple" (.bool v) = some false := isa_t (by simp [kindD]) kit_bt
@[simp] theorem isa_tup_n : isaD "tuple" .none = some false := isa_t (by simp [kindD]) kit_nt
@[simp] theorem isa_tup_t (l : List PyData) : isaD "tuple" (.tuple l) = some true := isa_t (by simp [kindD]) kit_tt
@[simp] theorem isa_tup_l : isaD "tuple" opL = some false := isa_t (by simp [kindD]) kit_lt
@[simp] theorem isa_tup_d : isaD "tuple" opD = some false := isa_t (by simp [kindD]) kit_dt
@[simp] theorem isa_list_i (v : Int) : isaD "list" (.int v) = some false := isa_t (by simp [kindD]) kit_il
@[simp] theorem isa_list_b (v : Bool) : isaD "list" (.bool v) = some false := isa_t (by simp [kindD]) kit_bl
@[simp] theorem isa_list_n : isaD "list" .none = some false := isa_t (by simp [kindD]) kit_nl
@[simp] theorem isa_list_t (l : List PyData) : isaD "list" (.tuple l) = some false := isa_t (by simp [kindD]) kit_tl
@[simp] theorem isa_str_i (v : Int) : isaD "str" (.int v) = some false := isa_t (by simp [kindD]) kit_is
@[simp] theorem isa_str_b (v : Bool) : isaD "str" (.bool v) = some false := isa_t (by simp [kindD]) kit_bs
@[simp] theorem isa_str_n : isaD "str" .none = some false := isa_t (by simp [kindD]) kit_ns
@[simp] theorem isa_str_t (l : List PyData) : isaD "str" (.tuple l) = some false := isa_t (by simp [kindD]) kit_ts
theorem F_is_number_int (v a b : Int) : F_is_number [.int v, .int a, .int b] = some (.bool (decide (a ≤ v) && decide (v ≤ b))) := by
  unfold F_is_number fnD S_is_number
  by_cases h : a ≤ v <;> simp [runD, sRt, oB, oAnd, oNot, o1, o2, oV, oCh, leD, h]
theorem F_is_number_bool (c : Bool) (a b : Int) : F_is_number [.bool c, .int a, .int b] = some (.bool false) := by
  unfold F_is_number fnD S_is_number
  simp [runD, sRt, oB, oAnd, oNot, o1, o2, oV, oCh, leD]
theorem F_is_number_none (a b : Int) : F_is_number [.none, .int a, .int b] = some (.bool false) := by
  unfold F_is_number fnD S_is_number
  simp [runD, sRt, oB, oAnd, oNot, o1, o2, oV, oCh, leD]
theorem F_is_number_tup (l : List PyData) (a b : Int) : F_is_number [.tuple l, .int a, .int b] = some (.bool false) := by
  unfold F_is_number fnD S_is_number
  simp [runD, sRt, oB, oAnd, oNot, o1, o2, oV, oCh, leD]
end LL
set_option Elab.async false
set_option linter.all false
set_option maxRecDepth 100000
set_option maxHeartbeats 4000000
set_option autoImplicit false
/-! The plain law: terms, lines, what they are as data. -/
namespace LL
open PySem PySem.Spec PyProof.Rows L2
inductive T where
  | c (i : Nat)
  | f1 (g : Nat) (t : T)
  | f2 (g : Nat) (t u : T)
  deriving DecidableEq
namespace T
def toD : T → PyData
  | .c i => .int i
  | .f1 g t => .tuple [.int g, t.toD]
  | .f2 g t u => .tuple [.int g, t.toD, u.toD]
def dep : T → Nat
  | .c _ => 1
  | .f1 _ t => 1 + t.dep
  | .f2 _ t u => 1 + max t.dep u.dep
theorem dep_pos : ∀ t : T, 1 ≤ t.dep
  | .c _ => Nat.le_refl _
  | .f1 _ t => by unfold dep; omega
  | .f2 _ t u => by unfold dep; omega
end T
/-- the cells' terms as data -/
def hD (h : List T) : PyData := .tuple (h.map T.toD)
inductive Ln where
  | cp (cell src : Nat)
  | g1 (cell g s : Nat)
  | g2 (cell g s t : Nat)
  deriving DecidableEq
namespace Ln
def toD : Ln → PyData
  | .cp a s => .tuple [.int a, .none, .tuple [.int s]]
  | .g1 a g s => .tuple [.int a, .int g, .tuple [.int s]]
  | .g2 a g s t => .tuple [.int a, .int g, .tuple [.int s, .int t]]
def cell : Ln → Nat
  | .cp a _ => a
  | .g1 a _ _ => a
  | .g2 a _ _ _ => a
end Ln
/-- the i-th cell's term -/
def gt (h : List T) (i : Nat) : T := h.getD i (.c 0)
namespace Ln
/-- the term that it makes -/
def mk (h : List T) : Ln → T
  | .cp _ s => gt h s
  | .g1 _ g s => .f1 g (gt h s)
  | .g2 _ g s t => .f2 g (gt h s) (gt h t)
def did (h : List T) (l : Ln) : List T := h.set l.cell (l.mk h)
/-- a line of a machine of c cells whose functions read fs -/
def ok (c : Nat) (fs : List Nat) : Ln → Bool
  | .cp a s => decide (a < c) && decide (s < c) && decide (s ≠ a)
  | .g1 a g s => decide (a < c) && decide (s < c) && decide (fs[g]? = some 1)
  | .g2 a g s t => decide (a < c) && decide (s < c) && decide (t < c) && decide (fs[g]? = some 2)
end Ln
def mD (c : Nat) (fs : List Nat) : PyData := .tuple [.int c, .tuple (fs.map fun r : Nat => PyData.int (r : Int))]
theorem hD_get {h : List T} {i : Nat} (hi : i < h.length) : ixD (hD h) (.int i) = some ((gt h i).toD) := by
  show atI (h.map T.toD) (i : Int) = _
  refine atI_nat ?_
  rw [List.getElem?_map, List.getElem?_eq_getElem hi]
  simp [gt, List.getD, List.getElem?_eq_getElem hi]
end LL
set_option Elab.async false
set_option linter.all false
set_option maxRecDepth 100000
set_option maxHeartbeats 4000000
set_option autoImplicit false
/-! The plain law: slices, depth, done. -/
namespace LL
open PySem PySem.Spec PyProof.Rows L2
theorem cut_from (xs : List PyData) (k : Nat) : cutD xs (some (k : Int)) none = xs.drop k := by
  unfold cutD
  rw [HT.sIx_nat, HT.sIx_none]
  by_cases h : k ≤ xs.length
  · rw [Nat.min_eq_left h, List.take_of_length_le (by rw [List.length_drop]; exact Nat.le_refl _)]
  · rw [Nat.min_eq_right (by omega), List.drop_eq_nil_of_le (Nat.le_refl _), List.drop_eq_nil_of_le (by omega)]
    simp
theorem cut_to (xs : List PyData) (k : Nat) : cutD xs none (some (k : Int)) = xs.take k := by
  unfold cutD
  rw [HT.sIx_nat, HT.sIx_none]
  simp
theorem maxL_two (a b : Int) : maxL [a, b] = some (max a b) := rfl
theorem maxL_one (a : Int) : maxL [a] = some a := rfl
theorem F_depth_ok : ∀ (t : T) (n : Nat), t.dep ≤ n → F_depth n [t.toD] = some (.int t.dep)
  | .c i, n, h => by
    cases n with
    | zero => simp [T.dep] at h
    | succ n =>
      show fnD 1 2 (S_depth (F_depth n)) [.int i] = _
      simp [fnD, S_depth, runD, sRt, oIf, o1, oV, oC, T.dep]
  | .f1 g t, n, h => by
    cases n with
    | zero => simp [T.dep] at h
    | succ n =>
      have ih := F_depth_ok t n (by simp only [T.dep] at h; omega)
      show fnD 1 2 (S_depth (F_depth n)) [.tuple [.int g, t.toD]] = _
      have hc : cutD [.int g, t.toD] (some 1) none = [t.toD] := cut_from _ 1
      have hn : notL (.int (t.dep : Int)) = true := rfl
      simp [fnD, S_depth, runD, sRt, oIf, o1, o2, oV, oC, oLc, oSl, oP, oNoP, sliceD, asI, hc, iT, lcD, own_depth_0, wipeD, gN, oYes, oL, oCons, oNil, ih, hn, sizeLine_eq, maxD, intsOf, maxL_one, addD, T.dep]
  | .f2 g t u, n, h => by
    cases n with
    | zero => simp [T.dep] at h
    | succ n =>
      have ih1 := F_depth_ok t n (by simp only [T.dep] at h; omega)
      have ih2 := F_depth_ok u n (by simp only [T.dep] at h; omega)
      show fnD 1 2 (S_depth (F_depth n)) [.tuple [.int g, t.toD, u.toD]] = _
      have hc : cutD [.int g, t.toD, u.toD] (some 1) none = [t.toD, u.toD] := cut_from _ 1
      have hn : ∀ k : Int, notL (.int k) = true := fun _ => rfl
      simp [fnD, S_depth, runD, sRt, oIf, o1, o2, oV, oC, oLc, oSl, oP, oNoP, sliceD, asI, hc, iT, lcD, own_depth_0, wipeD, gN, oYes, oL, oCons, oNil, ih1, ih2, hn, sizeLine_eq, maxD, intsOf, maxL_two, addD, T.dep]
      omega
end LL
set_option Elab.async false
set_option linter.all false
set_option maxRecDepth 100000
set_option maxHeartbeats 4000000
set_option autoImplicit false
/-! The plain law: done, _law_did, _law_deep. -/
namespace LL
open PySem PySem.Spec PyProof.Rows L2
@[simp] theorem toD_notL : ∀ t : T, notL t.toD = true
  | .c _ => rfl
  | .f1 _ _ => rfl
  | .f2 _ _ _ => rfl
theorem hD_len (h : List T) : (h.map T.toD).length = h.length := List.length_map _
/-- what the line reads stands -/
def Ln.in (n : Nat) : Ln → Prop
  | .cp a s => a < n ∧ s < n
  | .g1 a _ s => a < n ∧ s < n
  | .g2 a _ s t => a < n ∧ s < n ∧ t < n
theorem did_take (h : List T) (a : Nat) (x : T) (ha : a < h.length) : (h.map T.toD).take a ++ [x.toD] ++ (h.map T.toD).drop (a + 1) = (h.set a x).map T.toD := by
  rw [List.map_set, List.set_eq_take_append_cons_drop, if_pos (by rw [hD_len]; exact ha), List.append_assoc]
  rfl
theorem ix_h (h : List T) (i : Nat) (hi : i < h.length) : atI (h.map T.toD) (i : Int) = some ((gt h i).toD) := hD_get hi
theorem add_tt (a b : List PyData) (h : a.length + b.length ≤ 16777216) : addD (.tuple a) (.tuple b) = some (.tuple (a ++ b)) := by
  show (if a.length + b.length ≤ sizeLine then some (PyData.tuple (a ++ b)) else none) = _
  rw [sizeLine_eq, if_pos h]
theorem tail_ok (h : List T) (a : Nat) (x : T) (ha : a < h.length) (hs : h.length ≤ 10) : (addD (.tuple ((h.map T.toD).take a)) (.tuple [x.toD])).bind (fun y => addD y (.tuple ((h.map T.toD).drop (a + 1)))) = some (hD (h.set a x)) := by
  rw [add_tt _ _ (by simp; omega), Option.bind_some, add_tt _ _ (by simp; omega), did_take h a x ha]
  rfl
theorem F_law_did_ok (h : List T) (l : Ln) (hl : l.in h.length) (hs : h.length ≤ 10) : F_law_did [hD h, l.toD] = some (hD (l.did h)) := by
  cases l with
  | cp a s =>
    obtain ⟨ha, hs'⟩ := hl
    have e1 := ix_h h s hs'
    have e2 : cutD (h.map T.toD) none (some (a : Int)) = (h.map T.toD).take a := cut_to _ a
    have e3 : cutD (h.map T.toD) (some ((a : Int) + 1)) none = (h.map T.toD).drop (a + 1) := cut_from _ (a + 1)
    have e4 := tail_ok h a (gt h s) ha hs
    have e0 : atI [PyData.int (s : Int)] 0 = some (.int s) := rfl
    have ei : ∀ i j : Int, addD (.int i) (.int j) = some (.int (i + j)) := fun _ _ => rfl
    simp only [hD] at e4 ⊢
    simp [F_law_did, fnD, runD, S_law_did, sThen, sA, oV, gTupD, gConsD, gN, gNilD, oIf, o2, isD, isNoneD, oC, ixD, Ln.toD, e0, e1, sRt, oSl, oP, oNoP, sliceD, asI, e2, e3, ei, oL, mkT, oCons, oNil, sizeLine_eq, Ln.did, Ln.mk, Ln.cell, -List.map_set] at e4 ⊢
    rw [e4]
    rfl
  | g1 a g s =>
    obtain ⟨ha, hs'⟩ := hl
    have e1 := ix_h h s hs'
    have e2 : cutD (h.map T.toD) none (some (a : Int)) = (h.map T.toD).take a := cut_to _ a
    have e3 : cutD (h.map T.toD) (some ((a : Int) + 1)) none = (h.map T.toD).drop (a + 1) := cut_from _ (a + 1)
    have e4 := tail_ok h a (.f1 g (gt h s)) ha hs
    have ei : ∀ i j : Int, addD (.int i) (.int j) = some (.int (i + j)) := fun _ _ => rfl
    have et : addD (.tuple [.int (g : Int)]) (.tuple [(gt h s).toD]) = some (.tuple [.int g, (gt h s).toD]) := add_tt _ _ (by simp)
    have hn : ∀ k : Int, notL (.int k) = true := fun _ => rfl
    have ht : ∀ l : List PyData, notL (.tuple l) = true := fun _ => rfl
    simp only [hD, T.toD] at e4 ⊢
    simp [F_law_did, fnD, runD, S_law_did, sThen, sA, oV, gTupD, gConsD, gN, gNilD, oIf, o2, o1, isD, isNoneD, oC, ixD, Ln.toD, e1, sRt, oSl, oP, oNoP, sliceD, asI, e2, e3, ei, et, hn, ht, oL, mkT, oCons, oNil, oLc, iT, own_law_did_0, wipeD, lcD, oYes, tupD, sizeLine_eq, Ln.did, Ln.mk, Ln.cell, -List.map_set] at e4 ⊢
    rw [e4]
    rfl
  | g2 a g s t =>
    obtain ⟨ha, hs', ht'⟩ := hl
    have e1 := ix_h h s hs'
    have e1' := ix_h h t ht'
    have e2 : cutD (h.map T.toD) none (some (a : Int)) = (h.map T.toD).take a := cut_to _ a
    have e3 : cutD (h.map T.toD) (some ((a : Int) + 1)) none = (h.map T.toD).drop (a + 1) := cut_from _ (a + 1)
    have e4 := tail_ok h a (.f2 g (gt h s) (gt h t)) ha hs
    have ei : ∀ i j : Int, addD (.int i) (.int j) = some (.int (i + j)) := fun _ _ => rfl
    have et : addD (.tuple [.int (g : Int)]) (.tuple [(gt h s).toD, (gt h t).toD]) = some (.tuple [.int g, (gt h s).toD, (gt h t).toD]) := add_tt _ _ (by simp)
    have hn : ∀ k : Int, notL (.int k) = true := fun _ => rfl
    have ht : ∀ l : List PyData, notL (.tuple l) = true := fun _ => rfl
    simp only [hD, T.toD] at e4 ⊢
    simp [F_law_did, fnD, runD, S_law_did, sThen, sA, oV, gTupD, gConsD, gN, gNilD, oIf, o2, o1, isD, isNoneD, oC, ixD, Ln.toD, e1, e1', sRt, oSl, oP, oNoP, sliceD, asI, e2, e3, ei, et, hn, ht, oL, mkT, oCons, oNil, oLc, iT, own_law_did_0, wipeD, lcD, oYes, tupD, sizeLine_eq, Ln.did, Ln.mk, Ln.cell, -List.map_set] at e4 ⊢
    rw [e4]
    rfl
theorem F_done_ok (h : List T) (l : Ln) (hl : l.in h.length) (hs : h.length ≤ 10) (hd : (l.mk h).dep ≤ 8) : F_done [hD h, l.toD] = some (hD (l.did h)) := by
  cases l with
  | cp a s =>
    obtain ⟨ha, hs'⟩ := hl
    have e1 := ix_h h s hs'
    have e2 : cutD (h.map T.toD) none (some (a : Int)) = (h.map T.toD).take a := cut_to _ a
    have e3 : cutD (h.map T.toD) (some ((a : Int) + 1)) none = (h.map T.toD).drop (a + 1) := cut_from _ (a + 1)
    have e4 := tail_ok h a (gt h s) ha hs
    have e0 : atI [PyData.int (s : Int)] 0 = some (.int s) := rfl
    have ei : ∀ i j : Int, addD (.int i) (.int j) = some (.int (i + j)) := fun _ _ => rfl
    simp only [hD] at e4 ⊢
    simp [F_done, fnD, runD, S_done, sThen, sA, oV, gTupD, gConsD, gN, gNilD, sIf, o2, isD, isNoneD, oC, ixD, Ln.toD, e0, e1, sRt, oSl, oP, oNoP, sliceD, asI, e2, e3, ei, oL, mkT, oCons, oNil, sizeLine_eq, Ln.did, Ln.mk, Ln.cell, -List.map_set] at e4 ⊢
    rw [e4]
    rfl
  | g1 a g s =>
    obtain ⟨ha, hs'⟩ := hl
    have e1 := ix_h h s hs'
    have e2 : cutD (h.map T.toD) none (some (a : Int)) = (h.map T.toD).take a := cut_to _ a
    have e3 : cutD (h.map T.toD) (some ((a : Int) + 1)) none = (h.map T.toD).drop (a + 1) := cut_from _ (a + 1)
    have e4 := tail_ok h a (.f1 g (gt h s)) ha hs
    have ei : ∀ i j : Int, addD (.int i) (.int j) = some (.int (i + j)) := fun _ _ => rfl
    have hdp : F_depth 12 [.tuple [.int (g : Int), (gt h s).toD]] = some (.int ((T.f1 g (gt h s)).dep : Int)) := F_depth_ok (.f1 g (gt h s)) 12 (by simp only [Ln.mk] at hd; omega)
    have hgt : ¬ (8 < ((T.f1 g (gt h s)).dep : Int)) := by simp only [Ln.mk] at hd; omega
    have et : addD (.tuple [.int (g : Int)]) (.tuple [(gt h s).toD]) = some (.tuple [.int g, (gt h s).toD]) := add_tt _ _ (by simp)
    have hn : ∀ k : Int, notL (.int k) = true := fun _ => rfl
    have ht : ∀ l : List PyData, notL (.tuple l) = true := fun _ => rfl
    simp only [hD, T.toD] at e4 ⊢
    simp [F_done, fnD, runD, S_done, sThen, sA, oV, gTupD, gConsD, gN, gNilD, sIf, o2, o1, isD, isNoneD, oC, ixD, Ln.toD, e1, sRt, oSl, oP, oNoP, sliceD, asI, e2, e3, ei, et, hdp, hgt, gtD, sNx, hn, ht, oL, mkT, oCons, oNil, oLc, iT, own_done_0, wipeD, lcD, oYes, tupD, sizeLine_eq, Ln.did, Ln.mk, Ln.cell, -List.map_set] at e4 ⊢
    rw [e4]
    rfl
  | g2 a g s t =>
    obtain ⟨ha, hs', ht'⟩ := hl
    have e1 := ix_h h s hs'
    have e1' := ix_h h t ht'
    have e2 : cutD (h.map T.toD) none (some (a : Int)) = (h.map T.toD).take a := cut_to _ a
    have e3 : cutD (h.map T.toD) (some ((a : Int) + 1)) none = (h.map T.toD).drop (a + 1) := cut_from _ (a + 1)
    have e4 := tail_ok h a (.f2 g (gt h s) (gt h t)) ha hs
    have ei : ∀ i j : Int, addD (.int i) (.int j) = some (.int (i + j)) := fun _ _ => rfl
    have hdp : F_depth 12 [.tuple [.int (g : Int), (gt h s).toD, (gt h t).toD]] = some (.int ((T.f2 g (gt h s) (gt h t)).dep : Int)) := F_depth_ok (.f2 g (gt h s) (gt h t)) 12 (by simp only [Ln.mk] at hd; omega)
    have hgt : ¬ (8 < ((T.f2 g (gt h s) (gt h t)).dep : Int)) := by simp only [Ln.mk] at hd; omega
    have et : addD (.tuple [.int (g : Int)]) (.tuple [(gt h s).toD, (gt h t).toD]) = some (.tuple [.int g, (gt h s).toD, (gt h t).toD]) := add_tt _ _ (by simp)
    have hn : ∀ k : Int, notL (.int k) = true := fun _ => rfl
    have ht : ∀ l : List PyData, notL (.tuple l) = true := fun _ => rfl
    simp only [hD, T.toD] at e4 ⊢
    simp [F_done, fnD, runD, S_done, sThen, sA, oV, gTupD, gConsD, gN, gNilD, sIf, o2, o1, isD, isNoneD, oC, ixD, Ln.toD, e1, e1', sRt, oSl, oP, oNoP, sliceD, asI, e2, e3, ei, et, hdp, hgt, gtD, sNx, hn, ht, oL, mkT, oCons, oNil, oLc, iT, own_done_0, wipeD, lcD, oYes, tupD, sizeLine_eq, Ln.did, Ln.mk, Ln.cell, -List.map_set] at e4 ⊢
    rw [e4]
    rfl
end LL
set_option Elab.async false
set_option linter.all false
set_option maxRecDepth 100000
set_option maxHeartbeats 4000000
set_option autoImplicit false
/-! The plain law: how the mirrors run, data of keys. -/
namespace LL
open PySem PySem.Spec PyProof.Rows L2
/-! ### the combinators, applied -/
section
variable {ρ : DEnv}
@[simp] theorem ap_oV (i : Nat) : oV i ρ = (ρ[i]?).bind id := rfl
@[simp] theorem ap_oC (d : PyData) : oC d ρ = some d := rfl
@[simp] theorem ap_o1 {β : Type} (F : PyData → Option β) (E : DEnv → Option PyData) : o1 F E ρ = (E ρ).bind F := rfl
@[simp] theorem ap_o2 {β : Type} (F : PyData → PyData → Option β) (A B : DEnv → Option PyData) : o2 F A B ρ = (A ρ).bind fun a => (B ρ).bind fun b => F a b := rfl
@[simp] theorem ap_oNil : oNil ρ = some [] := rfl
@[simp] theorem ap_oCons (A : DEnv → Option PyData) (B : DEnv → Option (List PyData)) : oCons A B ρ = (A ρ).bind fun a => (B ρ).bind fun b => some (a :: b) := rfl
@[simp] theorem ap_oL {β : Type} (F : List PyData → Option β) (A : DEnv → Option (List PyData)) : oL F A ρ = (A ρ).bind F := rfl
@[simp] theorem ap_oIf (C : DEnv → Option Bool) (A B : DEnv → Option PyData) : oIf C A B ρ = (C ρ).bind fun c => if c = true then A ρ else B ρ := rfl
@[simp] theorem ap_oAnd (A B : DEnv → Option Bool) : oAnd A B ρ = (A ρ).bind fun c => if c = true then B ρ else some false := rfl
@[simp] theorem ap_oOr (A B : DEnv → Option Bool) : oOr A B ρ = (A ρ).bind fun c => if c = true then some true else B ρ := rfl
@[simp] theorem ap_oNot (A : DEnv → Option Bool) : oNot A ρ = (A ρ).bind fun c => some (!c) := rfl
@[simp] theorem ap_oB (A : DEnv → Option Bool) : oB A ρ = (A ρ).bind fun b => some (.bool b) := rfl
@[simp] theorem ap_oCh (F F' : PyData → PyData → Option Bool) (A B C : DEnv → Option PyData) : oCh F F' A B C ρ = (A ρ).bind fun a => (B ρ).bind fun b => (F a b).bind fun t => if t = true then (C ρ).bind fun c => F' b c else some false := rfl
@[simp] theorem ap_oYes : oYes ρ = some true := rfl
@[simp] theorem ap_oNoP : oNoP ρ = some none := rfl
@[simp] theorem ap_oP (E : DEnv → Option PyData) : oP E ρ = (E ρ).bind fun d => (asI d).bind fun i => some (some i) := rfl
@[simp] theorem ap_oSl (A : DEnv → Option PyData) (L H : DEnv → Option (Option Int)) : oSl A L H ρ = (A ρ).bind fun a => (L ρ).bind fun l => (H ρ).bind fun h => sliceD a l h := rfl
@[simp] theorem ap_oRg1 (A : DEnv → Option PyData) : oRg1 A ρ = (A ρ).bind fun a => (asI a).bind fun n => if n ≤ 16777216 ∧ 0 ≤ n then some (.tuple (rgD 0 n)) else none := rfl
@[simp] theorem ap_gN (i : Nat) (d : PyData) : gN i d ρ = some (ρ.set i (some d)) := rfl
@[simp] theorem ap_gTupD (n : Nat) (Gs : List PyData → DEnv → Option DEnv) (ds : List PyData) : gTupD n Gs (.tuple ds) ρ = if ds.length = n then Gs ds ρ else none := rfl
@[simp] theorem ap_gConsD (G : PyData → DEnv → Option DEnv) (Gs : List PyData → DEnv → Option DEnv) (d : PyData) (r : List PyData) : gConsD G Gs (d :: r) ρ = (G d ρ).bind (Gs r) := rfl
@[simp] theorem ap_gNilD : gNilD [] ρ = some ρ := rfl
@[simp] theorem ap_sA (E : DEnv → Option PyData) (G : PyData → DEnv → Option DEnv) : sA E G ρ = (E ρ).bind fun d => (G d ρ).bind fun ρ' => some (.nx ρ') := rfl
@[simp] theorem ap_sIf (C : DEnv → Option Bool) (S T : DEnv → Option Out) : sIf C S T ρ = (C ρ).bind fun c => if c = true then S ρ else T ρ := rfl
@[simp] theorem ap_sNx : sNx ρ = some (.nx ρ) := rfl
@[simp] theorem ap_sRt (E : DEnv → Option PyData) : sRt E ρ = (E ρ).bind fun d => some (.rt d) := rfl
@[simp] theorem ap_sEx (E : DEnv → Option PyData) : sEx E ρ = (E ρ).bind fun _ => some (.nx ρ) := rfl
@[simp] theorem ap_sPar (i j : Nat) (A B : DEnv → Option PyData) : sPar i j A B ρ = (A ρ).bind fun a => (B ρ).bind fun b => some (.nx ((ρ.set i (some a)).set j (some b))) := rfl
@[simp] theorem ap_sThen (S T : DEnv → Option Out) : sThen S T ρ = (S ρ).bind fun o => match o with
  | .nx ρ' => T ρ'
  | .rt d => some (.rt d) := rfl
end
@[simp] theorem wipe_nil (ρ : DEnv) : wipeD ρ [] = ρ := rfl
@[simp] theorem wipe_cons (ρ : DEnv) (v : Nat) (vs : List Nat) : wipeD ρ (v :: vs) = (wipeD ρ vs).set v none := rfl
@[simp] theorem ap_ixI (a : List PyData) (i : Int) : ixD (.tuple a) (.int i) = atI a i := rfl
@[simp] theorem ap_ixL (a : List PyData) (i : Int) : ixD (.list a) (.int i) = atI a i := rfl
@[simp] theorem ap_lenT (a : List PyData) : lenD (.tuple a) = some (.int a.length) := rfl
@[simp] theorem ap_lenL (a : List PyData) : lenD (.list a) = some (.int a.length) := rfl
@[simp] theorem ap_asI (i : Int) : asI (.int i) = some i := rfl
@[simp] theorem ap_asB (b : Bool) : asB (.bool b) = some b := rfl
@[simp] theorem ap_addI (i j : Int) : addD (.int i) (.int j) = some (.int (i + j)) := rfl
@[simp] theorem ap_subI (i j : Int) : subD (.int i) (.int j) = some (.int (i - j)) := rfl
@[simp] theorem ap_ltI (i j : Int) : ltD (.int i) (.int j) = some (decide (i < j)) := rfl
@[simp] theorem ap_leI (i j : Int) : leD (.int i) (.int j) = some (decide (i ≤ j)) := rfl
@[simp] theorem ap_gtI (i j : Int) : gtD (.int i) (.int j) = some (decide (j < i)) := rfl
@[simp] theorem ap_geI (i j : Int) : geD (.int i) (.int j) = some (decide (j ≤ i)) := rfl
@[simp] theorem ap_iT (ds : List PyData) : iT (.tuple ds) = some ds := rfl
@[simp] theorem ap_iL (ds : List PyData) : iL (.list ds) = some ds := rfl
@[simp] theorem ap_iEn (ds : List PyData) : iEn (.tuple ds) = some (enumD 0 ds) := rfl
@[simp] theorem ap_tupL (ds : List PyData) : tupD (.list ds) = some (.tuple ds) := rfl
@[simp] theorem ap_isN : isD .none .none = some true := rfl
@[simp] theorem ap_isI (i : Int) : isD (.int i) .none = some false := rfl
@[simp] theorem ap_isT (a : List PyData) : isD (.tuple a) .none = some false := rfl
@[simp] theorem ap_notN : notD .none .none = some false := rfl
@[simp] theorem ap_notT (a : List PyData) : notD (.tuple a) .none = some true := rfl
@[simp] theorem ap_notLI (i : Int) : notL (.int i) = true := rfl
@[simp] theorem ap_notLB (b : Bool) : notL (.bool b) = true := rfl
@[simp] theorem ap_notLN : notL .none = true := rfl
@[simp] theorem ap_notLT (a : List PyData) : notL (.tuple a) = true := rfl
@[simp] theorem ap_eqI (i j : Int) : eqD (.int i) (.int j) = some (decide (i = j)) := by
  by_cases h : i = j <;> simp [eqD, SeqAt.shaped, PyData.canLay0, PyData.depth, PyData.eqv, h]
@[simp] theorem ap_neI (i j : Int) : neD (.int i) (.int j) = some (!decide (i = j)) := by
  by_cases h : i = j <;> simp [neD, SeqAt.shaped, PyData.canLay0, PyData.depth, PyData.eqv, h]
@[simp] theorem ap_neB (i j : Bool) : neD (.bool i) (.bool j) = some (!(i == j)) := by
  simp [neD, SeqAt.shaped, PyData.canLay0, PyData.depth, PyData.eqv]
theorem sl_from (a : List PyData) (k : Nat) : sliceD (.tuple a) (some (k : Int)) none = some (.tuple (a.drop k)) := by
  show some (PyData.tuple (cutD a _ _)) = _
  rw [cut_from]
theorem sl_to (a : List PyData) (k : Nat) : sliceD (.tuple a) none (some (k : Int)) = some (.tuple (a.take k)) := by
  show some (PyData.tuple (cutD a _ _)) = _
  rw [cut_to]
@[simp] theorem sl_one (a : List PyData) : sliceD (.tuple a) (some 1) none = some (.tuple (a.drop 1)) := sl_from a 1
@[simp] theorem ap_mkT0 : mkT [] = some (.tuple []) := by simp [mkT, sizeLine_eq]
@[simp] theorem ap_mkL0 : mkL [] = some (.list []) := by simp [mkL, sizeLine_eq]
@[simp] theorem ap_mkT1 (a : PyData) (h : notL a = true) : mkT [a] = some (.tuple [a]) := by simp [mkT, sizeLine_eq, h]
@[simp] theorem ap_mkT2 (a b : PyData) (h : notL a = true) (h' : notL b = true) : mkT [a, b] = some (.tuple [a, b]) := by simp [mkT, sizeLine_eq, h, h']
@[simp] theorem ap_mkL1 (a : PyData) (h : notL a = true) : mkL [a] = some (.list [a]) := by simp [mkL, sizeLine_eq, h]
/-! ### runs -/
theorem fn_rt {n N : Nat} {S : DEnv → Option Out} {ds : List PyData} {d : PyData} (hl : ds.length = n) (h : S (ds.map some ++ List.replicate (N - ds.length) none) = some (.rt d)) : fnD n N S ds = some d := by
  unfold fnD runD
  rw [if_pos hl, h]
theorem fn_nx {n N : Nat} {S : DEnv → Option Out} {ds : List PyData} {ρ : DEnv} (hl : ds.length = n) (h : S (ds.map some ++ List.replicate (N - ds.length) none) = some (.nx ρ)) : fnD n N S ds = some .none := by
  unfold fnD runD
  rw [if_pos hl, h]
theorem th_nx {S T : DEnv → Option Out} {ρ ρ1 : DEnv} (h : S ρ = some (.nx ρ1)) : sThen S T ρ = T ρ1 := by
  rw [ap_sThen, h]; rfl
theorem th_rt {S T : DEnv → Option Out} {ρ : DEnv} {d : PyData} (h : S ρ = some (.rt d)) : sThen S T ρ = some (.rt d) := by
  rw [ap_sThen, h]; rfl
theorem sFor_eq {I : DEnv → Option (List PyData)} {G : PyData → DEnv → Option DEnv} {S : DEnv → Option Out} {ρ : DEnv} {ds : List PyData} (h : I ρ = some ds) : sFor I G S ρ = forD (fun d ρ => (G d ρ).bind S) ds ρ := by
  unfold sFor
  rw [h]; rfl
/-! ### comprehensions over typed lists -/
section
variable {α : Type}
theorem lcD_filter {f : PyData → Option (Option PyData)} (g h : α → PyData) (p : α → Bool) : ∀ (xs : List α), (∀ x ∈ xs, f (g x) = some (if p x = true then some (h x) else none) ∧ notL (h x) = true) → lcD f (xs.map g) = some ((xs.filter p).map h)
  | [], _ => rfl
  | x :: xs, H => by
    obtain ⟨h1, h2⟩ := H x List.mem_cons_self
    have ih := lcD_filter g h p xs fun y hy => H y (List.mem_cons_of_mem _ hy)
    rw [List.map_cons, lcD, h1, ih]
    cases hp : p x <;> simp [hp, h2]
theorem lcD_map {f : PyData → Option (Option PyData)} (g h : α → PyData) (xs : List α) (H : ∀ x ∈ xs, f (g x) = some (some (h x)) ∧ notL (h x) = true) : lcD f (xs.map g) = some (xs.map h) := by
  have := lcD_filter (f := f) g h (fun _ => true) xs fun x hx => by simpa using H x hx
  rw [List.filter_eq_self.mpr fun _ _ => rfl] at this
  exact this
theorem oLc_filter {I : DEnv → Option (List PyData)} {vs : List Nat} {G : PyData → DEnv → Option DEnv} {T : DEnv → Option Bool} {E : DEnv → Option PyData} {ρ : DEnv} (g h : α → PyData) (p : α → Bool) (xs : List α)
    (hI : I ρ = some (xs.map g)) (hl : xs.length ≤ 16777216) (H : ∀ x ∈ xs, notL (h x) = true ∧ ∃ ρ1, G (g x) (wipeD ρ vs) = some ρ1 ∧ T ρ1 = some (p x) ∧ (p x = true → E ρ1 = some (h x))) : oLc I vs G T E ρ = some (.list ((xs.filter p).map h)) := by
  unfold oLc
  have e : (xs.filter p).length ≤ sizeLine := by rw [sizeLine_eq]; exact Nat.le_trans (List.length_filter_le _ _) hl
  rw [hI, Option.bind_some, lcD_filter g h p xs, Option.bind_some, List.length_map, if_pos e]
  intro x hx
  obtain ⟨h1, ρ1, e1, e2, e3⟩ := H x hx
  refine ⟨?_, h1⟩
  rw [e1, Option.bind_some, e2, Option.bind_some]
  cases hp : p x
  · rfl
  · rw [e3 hp]; rfl
theorem oLc_map {I : DEnv → Option (List PyData)} {vs : List Nat} {G : PyData → DEnv → Option DEnv} {E : DEnv → Option PyData} {ρ : DEnv} (g h : α → PyData) (xs : List α)
    (hI : I ρ = some (xs.map g)) (hl : xs.length ≤ 16777216) (H : ∀ x ∈ xs, notL (h x) = true ∧ ∃ ρ1, G (g x) (wipeD ρ vs) = some ρ1 ∧ E ρ1 = some (h x)) : oLc I vs G oYes E ρ = some (.list (xs.map h)) := by
  have := oLc_filter (I := I) (vs := vs) (G := G) (T := oYes) (E := E) g h (fun _ => true) xs hI hl fun x hx => by
    obtain ⟨h1, ρ1, e1, e2⟩ := H x hx
    exact ⟨h1, ρ1, e1, rfl, fun _ => e2⟩
  rw [List.filter_eq_self.mpr fun _ _ => rfl] at this
  exact this
theorem quD_all {f : PyData → Option Bool} (g : α → PyData) (p : α → Bool) : ∀ (xs : List α), (∀ x ∈ xs, f (g x) = some (p x)) → quD true f (xs.map g) = some (xs.all p)
  | [], _ => rfl
  | x :: xs, H => by
    have ih := quD_all g p xs fun y hy => H y (List.mem_cons_of_mem _ hy)
    rw [List.map_cons, quD, H x List.mem_cons_self, ih, List.all_cons]
    cases p x <;> rfl
theorem oQu_all {I : DEnv → Option (List PyData)} {vs : List Nat} {G : PyData → DEnv → Option DEnv} {E : DEnv → Option PyData} {ρ : DEnv} (g : α → PyData) (p : α → Bool) (xs : List α)
    (hI : I ρ = some (xs.map g)) (H : ∀ x ∈ xs, ∃ ρ1, G (g x) (wipeD ρ vs) = some ρ1 ∧ E ρ1 = some (.bool (p x))) : oQu true I vs G E ρ = some (xs.all p) := by
  unfold oQu
  rw [hI, Option.bind_some, quD_all g p xs]
  intro x hx
  obtain ⟨ρ1, e1, e2⟩ := H x hx
  rw [e1, Option.bind_some, e2]
  rfl
end
/-! ### keys -/
mutual
theorem kd_lay : ∀ d : PyData, isKd d = true → d.canLay0 = true
  | .int _, _ => by simp [PyData.canLay0]
  | .tuple xs, h => by
    simp only [PyData.canLay0]
    exact kd_layA xs (by simpa [isKd] using h)
  | .none, h => by simp [isKd] at h
  | .bool _, h => by simp [isKd] at h
  | .str _, h => by simp [isKd] at h
  | .list _, h => by simp [isKd] at h
  | .dict _, h => by simp [isKd] at h
theorem kd_layA : ∀ xs : List PyData, areKd xs = true → PyData.canLayAll0 xs = true
  | [], _ => by simp [PyData.canLayAll0]
  | x :: xs, h => by
    simp only [areKd, Bool.and_eq_true] at h
    simp [PyData.canLayAll0, kd_lay x h.1, kd_layA xs h.2]
end
mutual
theorem eqv_kd : ∀ a b : PyData, isKd a = true → isKd b = true → (PyData.eqv a b = true ↔ a = b)
  | .int i, b, _, hb => by
    cases b with
    | int j => simp [PyData.eqv]
    | tuple _ => simp [PyData.eqv]
    | _ => simp [isKd] at hb
  | .tuple xs, b, ha, hb => by
    cases b with
    | int j => simp [PyData.eqv]
    | tuple ys =>
      have := eqv_kdA xs ys (by simpa [isKd] using ha) (by simpa [isKd] using hb)
      simp only [PyData.eqv, PyData.tuple.injEq]
      exact this
    | _ => simp [isKd] at hb
  | .none, _, h, _ => by simp [isKd] at h
  | .bool _, _, h, _ => by simp [isKd] at h
  | .str _, _, h, _ => by simp [isKd] at h
  | .list _, _, h, _ => by simp [isKd] at h
  | .dict _, _, h, _ => by simp [isKd] at h
theorem eqv_kdA : ∀ a b : List PyData, areKd a = true → areKd b = true → (PyData.eqvAll a b = true ↔ a = b)
  | [], b, _, _ => by cases b <;> simp [PyData.eqvAll]
  | x :: xs, [], _, _ => by simp [PyData.eqvAll]
  | x :: xs, y :: ys, ha, hb => by
    simp only [areKd, Bool.and_eq_true] at ha hb
    simp only [PyData.eqvAll, Bool.and_eq_true, List.cons.injEq]
    rw [eqv_kd x y ha.1 hb.1, eqv_kdA xs ys ha.2 hb.2]
end
theorem areKd_of : ∀ {xs : List PyData}, (∀ x ∈ xs, isKd x = true) → areKd xs = true
  | [], _ => rfl
  | x :: xs, h => by
    simp only [areKd, Bool.and_eq_true]
    exact ⟨h x List.mem_cons_self, areKd_of fun y hy => h y (List.mem_cons_of_mem _ hy)⟩
theorem layA_of : ∀ {xs : List PyData}, (∀ x ∈ xs, x.canLay0 = true) → PyData.canLayAll0 xs = true
  | [], _ => by simp [PyData.canLayAll0]
  | x :: xs, h => by
    simp only [PyData.canLayAll0, Bool.and_eq_true]
    exact ⟨h x List.mem_cons_self, layA_of fun y hy => h y (List.mem_cons_of_mem _ hy)⟩
theorem depA_of {n : Nat} : ∀ {xs : List PyData}, (∀ x ∈ xs, x.depth ≤ n) → PyData.depthAll xs ≤ n
  | [], _ => by simp [PyData.depthAll]
  | x :: xs, h => by
    simp only [PyData.depthAll]
    exact Nat.max_le.mpr ⟨h x List.mem_cons_self, depA_of fun y hy => h y (List.mem_cons_of_mem _ hy)⟩
theorem nkA_of {n : Nat} : ∀ {xs : List PyData}, (∀ x ∈ xs, (nk x).depth ≤ n) → NestedKey.depthAll (nks xs) ≤ n
  | [], _ => by simp [nks, NestedKey.depthAll]
  | x :: xs, h => by
    simp only [nks, NestedKey.depthAll]
    exact Nat.max_le.mpr ⟨h x List.mem_cons_self, nkA_of fun y hy => h y (List.mem_cons_of_mem _ hy)⟩
/-- may be compared -/
def Sh (d : PyData) : Prop := d.canLay0 = true ∧ d.depth ≤ 40
theorem Sh.s {d : PyData} (h : Sh d) : SeqAt.shaped d = true := by
  unfold SeqAt.shaped
  rw [h.1, Bool.true_and, decide_eq_true_eq]
  exact Nat.le_trans h.2 (by omega)
theorem Sh.int (i : Int) : Sh (.int i) := ⟨by simp [PyData.canLay0], by simp [PyData.depth]⟩
theorem Sh.bool (i : Bool) : Sh (.bool i) := ⟨by simp [PyData.canLay0], by simp [PyData.depth]⟩
theorem Sh.none : Sh .none := ⟨by simp [PyData.canLay0], by simp [PyData.depth]⟩
theorem sh_list {xs : List PyData} (h : ∀ x ∈ xs, Sh x) : SeqAt.shaped (.list xs) = true := by
  unfold SeqAt.shaped
  have h1 : (PyData.list xs).canLay0 = true := by
    simp only [PyData.canLay0]
    exact layA_of fun x hx => (h x hx).1
  have h2 : (PyData.list xs).depth ≤ 64 := by
    simp only [PyData.depth]
    have := depA_of (n := 40) fun x hx => (h x hx).2
    omega
  rw [h1, Bool.true_and, decide_eq_true_eq]
  exact h2
theorem sh_tup {n : Nat} {xs : List PyData} (hn : n < 40) (h : ∀ x ∈ xs, x.canLay0 = true ∧ x.depth ≤ n) : Sh (.tuple xs) := by
  refine ⟨?_, ?_⟩
  · simp only [PyData.canLay0]
    exact layA_of fun x hx => (h x hx).1
  · simp only [PyData.depth]
    have := depA_of (n := n) fun x hx => (h x hx).2
    omega
theorem eq_sh {a b : PyData} (ha : Sh a) (hb : Sh b) : eqD a b = some (PyData.eqv a b) := by
  unfold eqD
  rw [if_pos ⟨ha.s, hb.s⟩]
theorem ne_sh {a b : PyData} (ha : Sh a) (hb : Sh b) : neD a b = some (!PyData.eqv a b) := by
  unfold neD
  rw [if_pos ⟨ha.s, hb.s⟩]
/-! ### terms as keys -/
theorem toD_kd : ∀ t : T, isKd t.toD = true
  | .c _ => rfl
  | .f1 g t => by simp [T.toD, isKd, areKd, toD_kd t]
  | .f2 g t u => by simp [T.toD, isKd, areKd, toD_kd t, toD_kd u]
theorem toD_inj : ∀ {a b : T}, a.toD = b.toD → a = b
  | .c i, b, h => by
    cases b with
    | c j => simp [T.toD] at h; rw [Int.natCast_inj.mp h]
    | _ => simp [T.toD] at h
  | .f1 g t, b, h => by
    cases b with
    | f1 g' t' =>
      simp [T.toD] at h
      rw [Int.natCast_inj.mp h.1, toD_inj h.2]
    | _ => simp [T.toD] at h
  | .f2 g t u, b, h => by
    cases b with
    | f2 g' t' u' =>
      simp [T.toD] at h
      rw [Int.natCast_inj.mp h.1, toD_inj h.2.1, toD_inj h.2.2]
    | _ => simp [T.toD] at h
theorem toD_depth : ∀ t : T, t.toD.depth + 1 = t.dep
  | .c _ => by simp [T.toD, PyData.depth, T.dep]
  | .f1 g t => by
    have := toD_depth t
    simp only [T.toD, PyData.depth, PyData.depthAll, T.dep]
    omega
  | .f2 g t u => by
    have h1 := toD_depth t
    have h2 := toD_depth u
    simp only [T.toD, PyData.depth, PyData.depthAll, T.dep]
    omega
theorem toD_nk : ∀ t : T, (nk t.toD).depth + 1 = t.dep
  | .c _ => by simp [T.toD, nk, NestedKey.depth, T.dep]
  | .f1 g t => by
    have := toD_nk t
    simp only [T.toD, nk, nks, NestedKey.depth, NestedKey.depthAll, T.dep]
    omega
  | .f2 g t u => by
    have h1 := toD_nk t
    have h2 := toD_nk u
    simp only [T.toD, nk, nks, NestedKey.depth, NestedKey.depthAll, T.dep]
    omega
theorem toD_sh {t : T} (h : t.dep ≤ 20) : Sh t.toD := ⟨kd_lay _ (toD_kd t), by have := toD_depth t; omega⟩
theorem eqv_T (a b : T) : PyData.eqv a.toD b.toD = decide (a = b) := by
  rw [Bool.eq_iff_iff, eqv_kd _ _ (toD_kd a) (toD_kd b), decide_eq_true_eq]
  exact ⟨toD_inj, fun h => by rw [h]⟩
theorem hD_kd (h : List T) : isKd (hD h) = true := by
  show areKd (h.map T.toD) = true
  refine areKd_of fun x hx => ?_
  obtain ⟨t, _, rfl⟩ := List.mem_map.mp hx
  exact toD_kd t
theorem hD_inj {a b : List T} (h : hD a = hD b) : a = b := by
  have h : a.map T.toD = b.map T.toD := by simpa [hD] using h
  exact (List.map_inj_right fun _ _ => toD_inj).mp h
theorem eqv_H (a b : List T) : PyData.eqv (hD a) (hD b) = decide (a = b) := by
  rw [Bool.eq_iff_iff, eqv_kd _ _ (hD_kd a) (hD_kd b), decide_eq_true_eq]
  exact ⟨hD_inj, fun h => by rw [h]⟩
end LL
set_option Elab.async false
set_option linter.all false
set_option maxRecDepth 100000
set_option maxHeartbeats 4000000
set_option autoImplicit false
/-! The plain law: deep, tame, ran, lost_behind. -/
namespace LL
open PySem PySem.Spec PyProof.Rows L2
/-! ### one step, goal by goal -/
section
variable {ρ ρ1 : DEnv} {S T : DEnv → Option Out} {r : Option Out} {d a b : PyData} {E A B : DEnv → Option PyData} {G : PyData → DEnv → Option DEnv} {C D : DEnv → Option Bool} {ds : List PyData} {Es : DEnv → Option (List PyData)}
theorem tN (h : S ρ = some (.nx ρ1)) (h2 : T ρ1 = r) : sThen S T ρ = r := (th_nx h).trans h2
theorem tR (h : S ρ = some (.rt d)) : sThen S T ρ = some (.rt d) := th_rt h
theorem aE (h : E ρ = some d) (h2 : G d ρ = some ρ1) : sA E G ρ = some (.nx ρ1) := by rw [ap_sA, h, Option.bind_some, h2]; rfl
theorem rE (h : E ρ = some d) : sRt E ρ = some (.rt d) := by rw [ap_sRt, h]; rfl
theorem xE (h : E ρ = some d) : sEx E ρ = some (.nx ρ) := by rw [ap_sEx, h]; rfl
theorem iY (h : C ρ = some true) (h2 : S ρ = r) : sIf C S T ρ = r := by rw [ap_sIf, h]; exact h2
theorem iN (h : C ρ = some false) (h2 : T ρ = r) : sIf C S T ρ = r := by rw [ap_sIf, h]; exact h2
theorem e1 {β : Type} {F : PyData → Option β} {r : Option β} (h : E ρ = some a) (h2 : F a = r) : o1 F E ρ = r := by rw [ap_o1, h]; exact h2
theorem e2 {β : Type} {F : PyData → PyData → Option β} {r : Option β} (h : A ρ = some a) (h1 : B ρ = some b) (h2 : F a b = r) : o2 F A B ρ = r := by rw [ap_o2, h, Option.bind_some, h1]; exact h2
theorem eL {β : Type} {F : List PyData → Option β} {r : Option β} (h : Es ρ = some ds) (h2 : F ds = r) : oL F Es ρ = r := by rw [ap_oL, h]; exact h2
theorem eC (h : E ρ = some a) (h1 : Es ρ = some ds) : oCons E Es ρ = some (a :: ds) := by rw [ap_oCons, h, Option.bind_some, h1]; rfl
theorem eB {b : Bool} (h : C ρ = some b) : oB C ρ = some (.bool b) := by rw [ap_oB, h]; rfl
theorem eY {r : Option PyData} (h : C ρ = some true) (h2 : A ρ = r) : oIf C A B ρ = r := by rw [ap_oIf, h]; exact h2
theorem eN {r : Option PyData} (h : C ρ = some false) (h2 : B ρ = r) : oIf C A B ρ = r := by rw [ap_oIf, h]; exact h2
theorem anT {r : Option Bool} (h : C ρ = some true) (h2 : D ρ = r) : oAnd C D ρ = r := by rw [ap_oAnd, h]; exact h2
theorem anF (h : C ρ = some false) : oAnd C D ρ = some false := by rw [ap_oAnd, h]; rfl
theorem orT (h : C ρ = some true) : oOr C D ρ = some true := by rw [ap_oOr, h]; rfl
theorem orF {r : Option Bool} (h : C ρ = some false) (h2 : D ρ = r) : oOr C D ρ = r := by rw [ap_oOr, h]; exact h2
theorem noE {b c : Bool} (h : C ρ = some b) (hb : (!b) = c) : oNot C ρ = some c := by rw [ap_oNot, h, ← hb]; rfl
theorem paE {i j : Nat} (h : A ρ = some a) (h1 : B ρ = some b) : sPar i j A B ρ = some (.nx ((ρ.set i (some a)).set j (some b))) := by rw [ap_sPar, h, Option.bind_some, h1]; rfl
theorem foE {I : DEnv → Option (List PyData)} {r : Option Out} (h : I ρ = some ds) (h2 : forD (fun d ρ => (G d ρ).bind S) ds ρ = r) : sFor I G S ρ = r := (sFor_eq h).trans h2
theorem foC {f : PyData → DEnv → Option Out} {r : Option Out} (h : f d ρ = some (.nx ρ1)) (h2 : forD f ds ρ1 = r) : forD f (d :: ds) ρ = r := by rw [forD, h]; exact h2
theorem foR {f : PyData → DEnv → Option Out} (h : f d ρ = some (.rt a)) : forD f (d :: ds) ρ = some (.rt a) := by rw [forD, h]; rfl
theorem set_oV {i : Nat} {d : PyData} (h : i < ρ.length) : oV i (ρ.set i (some d)) = some d := by
  show ((ρ.set i (some d))[i]?).bind id = _
  rw [List.getElem?_set_self h]; rfl
end
/-! ### deep -/
theorem F_law_deep_ok : ∀ (t : T) (n : Nat), t.dep ≤ n → F_law_deep n [t.toD] = some (.int t.dep)
  | .c i, n, h => by
    cases n with
    | zero => simp [T.dep] at h
    | succ n =>
      show fnD 1 2 (S_law_deep (F_law_deep n)) [.int i] = _
      simp [fnD, S_law_deep, runD, T.dep]
  | .f1 g t, n, h => by
    cases n with
    | zero => simp [T.dep] at h
    | succ n =>
      have ih := F_law_deep_ok t n (by simp only [T.dep] at h; omega)
      show fnD 1 2 (S_law_deep (F_law_deep n)) [.tuple [.int g, t.toD]] = _
      simp [fnD, S_law_deep, runD, oLc, lcD, own_law_deep_0, ih, sizeLine_eq, maxD, intsOf, maxL_one, T.dep]
  | .f2 g t u, n, h => by
    cases n with
    | zero => simp [T.dep] at h
    | succ n =>
      have ih1 := F_law_deep_ok t n (by simp only [T.dep] at h; omega)
      have ih2 := F_law_deep_ok u n (by simp only [T.dep] at h; omega)
      show fnD 1 2 (S_law_deep (F_law_deep n)) [.tuple [.int g, t.toD, u.toD]] = _
      simp [fnD, S_law_deep, runD, oLc, lcD, own_law_deep_0, ih1, ih2, sizeLine_eq, maxD, intsOf, maxL_two, T.dep]
      omega
theorem ints_of (ns : List Int) : intsOf (ns.map PyData.int) = some ns := by
  induction ns with
  | nil => rfl
  | cons n r ih => show ((intsOf (r.map PyData.int)).bind fun l => some (n :: l)) = _; rw [ih]; rfl
/-- the depth of what the cells hold -/
def hdep : List T → Nat
  | [] => 0
  | t :: r => max t.dep (hdep r)
theorem le_hdep : ∀ {h : List T} {t : T}, t ∈ h → t.dep ≤ hdep h
  | u :: r, t, ht => by
    rcases List.mem_cons.mp ht with rfl | ht
    · exact Nat.le_max_left _ _
    · exact Nat.le_trans (le_hdep ht) (Nat.le_max_right _ _)
theorem hdep_le : ∀ {h : List T} {n : Nat}, (∀ t ∈ h, t.dep ≤ n) → hdep h ≤ n
  | [], _, _ => Nat.zero_le _
  | t :: r, n, H => Nat.max_le.mpr ⟨H t List.mem_cons_self, hdep_le fun u hu => H u (List.mem_cons_of_mem _ hu)⟩
theorem foldl_hdep : ∀ (h : List T) (x : Nat), (h.map fun t => (t.dep : Int)).foldl max (x : Int) = ((max x (hdep h) : Nat) : Int)
  | [], x => by simp [hdep]
  | t :: r, x => by
    have := foldl_hdep r (max x t.dep)
    simp only [List.map_cons, List.foldl_cons, hdep]
    have e : max (x : Int) (t.dep : Int) = ((max x t.dep : Nat) : Int) := by omega
    rw [e, this, Nat.max_assoc]
theorem maxD_hdep {h : List T} (hn : h ≠ []) : maxD (.list (h.map fun t => PyData.int t.dep)) = some (.int (hdep h)) := by
  have e : (h.map fun t => PyData.int t.dep) = (h.map fun t => (t.dep : Int)).map PyData.int := by rw [List.map_map]; rfl
  show ((intsOf _).bind maxL).bind _ = _
  rw [e, ints_of]
  cases h with
  | nil => exact absurd rfl hn
  | cons t r =>
    have := foldl_hdep r t.dep
    show (some ((r.map fun t => (t.dep : Int)).foldl max (t.dep : Int))).bind _ = _
    rw [this]; rfl
theorem maxE {ρ : DEnv} {k j : Nat} {vs : List Nat} {h : List T} (hk : oV k ρ = some (hD h)) (hj : j < (wipeD ρ vs).length) (hn : h ≠ []) (hd : hdep h ≤ 12) (hl : h.length ≤ 100) :
    o1 maxD (oLc (o1 iT (oV k)) vs (gN j) oYes (oL (fun as => F_law_deep 12 (as ++ [])) (oCons (oV j) oNil))) ρ = some (.int (hdep h)) :=
  e1 (oLc_map T.toD (fun t => .int t.dep) h (e1 hk rfl) (by omega) fun t ht => ⟨rfl, _, rfl, eL (eC (set_oV hj) rfl) (F_law_deep_ok t 12 (Nat.le_trans (le_hdep ht) hd))⟩) (maxD_hdep hn)
/-! ### lines, programs -/
def pD (p : List Ln) : PyData := .tuple (p.map Ln.toD)
def iD (n : Nat) : PyData := .int (n : Int)
def lD (l : List Nat) : PyData := .tuple (l.map iD)
def h0 (c : Nat) : List T := (List.range c).map T.c
def fss : List (List Nat) := [[1], [2], [1, 1], [1, 2], [2, 1], [2, 2]]
structure Gm (c : Nat) (fs : List Nat) : Prop where
  c1 : 1 ≤ c
  c3 : c ≤ 3
  f : fs ∈ fss
theorem Gm.all {P : Nat → List Nat → Prop} (h : ∀ c ∈ [1, 2, 3], ∀ fs ∈ fss, P c fs) {c : Nat} {fs : List Nat} (g : Gm c fs) : P c fs := by
  have h1 := g.c1
  have h2 := g.c3
  refine h c ?_ fs g.f
  have : c = 1 ∨ c = 2 ∨ c = 3 := by omega
  rcases this with rfl | rfl | rfl <;> simp
theorem h0_D (c : Nat) : PyData.tuple (rgD 0 (c : Int)) = hD (h0 c) := by
  simp [rgD, hD, h0, T.toD, List.map_map, Function.comp_def]
theorem h0_len (c : Nat) : (h0 c).length = c := by simp [h0]
theorem h0_dep (c : Nat) : hdep (h0 c) ≤ 1 := hdep_le fun t ht => by
  obtain ⟨i, _, rfl⟩ := List.mem_map.mp ht
  exact Nat.le_refl _
theorem firstE {ρ : DEnv} {k c : Nat} {fs : List Nat} (g : Gm c fs) (h : oV k ρ = some (mD c fs)) : oRg1 (o2 ixD (oV k) (oC (.int 0))) ρ = some (hD (h0 c)) := by
  have hc := g.c3
  have e : ixD (mD c fs) (.int 0) = some (.int c) := rfl
  have hb : (c : Int) ≤ 16777216 ∧ (0 : Int) ≤ c := by omega
  rw [ap_oRg1, ap_o2, h, Option.bind_some, ap_oC, Option.bind_some, e, Option.bind_some, ap_asI, Option.bind_some, if_pos hb, h0_D]
theorem did_len (l : Ln) (h : List T) : (l.did h).length = h.length := by simp [Ln.did]
def runs (h : List T) : List Ln → List T
  | [] => h
  | l :: r => runs (l.did h) r
theorem runs_len : ∀ (q : List Ln) (h : List T), (runs h q).length = h.length
  | [], h => rfl
  | l :: r, h => by rw [runs, runs_len r, did_len]
theorem runs_app : ∀ (q r : List Ln) (h : List T), runs h (q ++ r) = runs (runs h q) r
  | [], r, h => rfl
  | l :: q, r, h => by rw [List.cons_append, runs, runs, runs_app q r]
def tm (n : Nat) : List T → List Ln → Prop
  | _, [] => True
  | h, l :: r => hdep (l.did h) ≤ n ∧ tm n (l.did h) r
theorem tm_app {n : Nat} : ∀ (q r : List Ln) (h : List T), tm n h (q ++ r) ↔ tm n h q ∧ tm n (runs h q) r
  | [], r, h => by simp [tm, runs]
  | l :: q, r, h => by simp only [List.cons_append, tm, runs, tm_app q r]; exact and_assoc.symm
theorem mk_dep (l : Ln) {h : List T} (hl : l.in h.length) : (l.mk h).dep ≤ hdep h + 1 := by
  have g : ∀ {i}, i < h.length → (gt h i).dep ≤ hdep h := fun {i} hi => le_hdep (by
    simp only [gt, List.getD, List.getElem?_eq_getElem hi, Option.getD_some]
    exact List.getElem_mem hi)
  cases l with
  | cp a s =>
    have := g hl.2
    simp only [Ln.mk]; omega
  | g1 a f s =>
    have := g hl.2
    simp only [Ln.mk, T.dep]; omega
  | g2 a f s t =>
    have h1 := g hl.2.1
    have h2 := g hl.2.2
    simp only [Ln.mk, T.dep]; omega
theorem mem_did {l : Ln} {h : List T} {t : T} (ht : t ∈ l.did h) : t ∈ h ∨ t = l.mk h := List.mem_or_eq_of_mem_set ht
theorem did_dep (l : Ln) {h : List T} (hl : l.in h.length) : hdep (l.did h) ≤ hdep h + 1 := hdep_le fun t ht => by
  rcases mem_did ht with h1 | rfl
  · exact Nat.le_trans (le_hdep h1) (by omega)
  · exact mk_dep l hl
theorem Ln.in_cell {l : Ln} {n : Nat} (h : l.in n) : l.cell < n := by
  cases l <;> exact h.1
theorem mk_in_did {l : Ln} {h : List T} (hl : l.in h.length) : l.mk h ∈ l.did h := List.mem_set (Ln.in_cell hl) _
/-- a program's lines stand in their cells -/
def In (c : Nat) (p : List Ln) : Prop := ∀ l ∈ p, l.in c
/-! ### tame -/
def tameS (s : List T × List Ln) (l : Ln) : List T × List Ln := if hdep (l.did s.1) < 6 then (l.did s.1, s.2 ++ [l]) else s
def tame (c : Nat) (p : List Ln) : List Ln := (p.foldl tameS (h0 c, [])).2
theorem ne_of_len {h : List T} {c : Nat} (hc : 1 ≤ c) (hl : h.length = c) : h ≠ [] := fun z => by rw [z] at hl; simp at hl; omega
theorem tame_for {c : Nat} {fs : List Nat} (g : Gm c fs) {m pd : PyData} : ∀ (p : List Ln) (s : List T × List Ln) (v4 v5 v6 : Option PyData), In c p → s.1.length = c → hdep s.1 ≤ 5 → s.2.length + p.length ≤ 100 → ∃ v4' v5' v6',
    forD (fun d ρ => (gN 4 d ρ).bind (sThen (sA (oL (fun as => F_law_did (as ++ [])) (oCons (oV 2) (oCons (oV 4) oNil))) (gN 5))
      (sIf (o2 ltD (o1 maxD (oLc (o1 iT (oV 5)) (own_law_tame_0.map (·.2)) (gN 6) oYes (oL (fun as => (F_law_deep 12) (as ++ [])) (oCons (oV 6) oNil)))) (oC (.int 6))) (sPar 2 3 (oV 5) (o2 addD (oV 3) (oL mkT (oCons (oV 4) oNil)))) sNx)))
      (p.map Ln.toD) [some m, some pd, some (hD s.1), some (pD s.2), v4, v5, v6] = some (.nx [some m, some pd, some (hD (p.foldl tameS s).1), some (pD (p.foldl tameS s).2), v4', v5', v6'])
  | [], s, v4, v5, v6, _, _, _, _ => ⟨v4, v5, v6, rfl⟩
  | l :: p, s, v4, v5, v6, hp, hs, hd, hl => by
    have hc := g.c3
    have hin : l.in s.1.length := hs ▸ hp l List.mem_cons_self
    have hd' := did_dep l hin
    have hl' : s.2.length + p.length + 1 ≤ 100 := by rw [List.length_cons] at hl; omega
    have e1' : F_law_did ([hD s.1, l.toD] ++ []) = some (hD (l.did s.1)) := F_law_did_ok s.1 l hin (by omega)
    have e3 : ∀ (w4 : Option PyData), o1 maxD (oLc (o1 iT (oV 5)) (own_law_tame_0.map (·.2)) (gN 6) oYes (oL (fun as => (F_law_deep 12) (as ++ [])) (oCons (oV 6) oNil))) [some m, some pd, some (hD s.1), some (pD s.2), w4, some (hD (l.did s.1)), v6] = some (.int (hdep (l.did s.1))) := fun w4 =>
      maxE (h := l.did s.1) rfl (by simp [own_law_tame_0]) (ne_of_len g.c1 (by rw [did_len, hs])) (by omega) (by rw [did_len]; omega)
    by_cases hb : hdep (l.did s.1) < 6
    · have es : tameS s l = (l.did s.1, s.2 ++ [l]) := if_pos hb
      obtain ⟨w4, w5, w6, ih⟩ := tame_for g (m := m) (pd := pd) p (tameS s l) (some l.toD) (some (hD (l.did s.1))) v6 (fun x hx => hp x (List.mem_cons_of_mem _ hx)) (by rw [es]; exact (did_len _ _).trans hs) (by rw [es]; exact Nat.le_of_lt_succ hb) (by rw [es]; simp; omega)
      refine ⟨w4, w5, w6, ?_⟩
      rw [List.map_cons, List.foldl_cons]
      have ea : addD (pD s.2) (.tuple [l.toD]) = some (pD (s.2 ++ [l])) := by
        show addD (.tuple _) (.tuple _) = _
        rw [add_tt _ _ (by simp; omega)]
        simp [pD]
      have hnl : notL l.toD = true := by cases l <;> rfl
      refine foC (tN (aE (eL rfl e1') rfl) (iY (e2 (e3 _) rfl (by simp; omega)) (paE rfl (e2 rfl (eL rfl (ap_mkT1 _ hnl)) ea)))) ?_
      rw [es] at ih ⊢
      exact ih
    · have es : tameS s l = s := if_neg hb
      obtain ⟨w4, w5, w6, ih⟩ := tame_for g (m := m) (pd := pd) p s (some l.toD) (some (hD (l.did s.1))) v6 (fun x hx => hp x (List.mem_cons_of_mem _ hx)) hs hd (by omega)
      refine ⟨w4, w5, w6, ?_⟩
      rw [List.map_cons, List.foldl_cons, es]
      exact foC (tN (aE (eL rfl e1') rfl) (iN (e2 (e3 _) rfl (by simp; omega)) rfl)) ih
theorem F_law_tame_ok {c : Nat} {fs : List Nat} (g : Gm c fs) {p : List Ln} (hp : In c p) (hl : p.length ≤ 100) : F_law_tame [mD c fs, pD p] = some (pD (tame c p)) := by
  obtain ⟨v4, v5, v6, e⟩ := tame_for g (m := mD c fs) (pd := pD p) p (h0 c, []) none none none hp (h0_len c) (Nat.le_trans (h0_dep c) (by omega)) (by simpa using hl)
  exact fn_rt rfl (tN (paE (firstE g rfl) (eL rfl ap_mkT0)) (tN (foE rfl e) (rE rfl)))
/-! ### runs with losses -/
/-- the lines that happen -/
def kp (l : List Nat) : Nat → List Ln → List Ln
  | _, [] => []
  | k, x :: r => if k ∈ l then kp l (k + 1) r else x :: kp l (k + 1) r
theorem ni_lD (k : Nat) (l : List Nat) : (fun a b => (inD a b).map (!·)) (.int (k : Int)) (lD l) = some (!decide (k ∈ l)) := by
  have e : (l.map iD) = (l.map fun n : Nat => (n : Int)).map PyData.int := by rw [List.map_map]; rfl
  show (((intsOf (l.map iD)).bind fun ns => some (ns.any fun z => z == (k : Int))).map (!·)) = _
  rw [e, ints_of]
  simp only [Option.bind_some, Option.map_some, Option.some.injEq]
  congr 1
  rw [Bool.eq_iff_iff]
  simp [List.any_map, Int.natCast_inj]
theorem Ln.notL (l : Ln) : LL.notL l.toD = true := by cases l <;> rfl
theorem ran_for {c : Nat} {fs : List Nat} (g : Gm c fs) {m pd : PyData} (l : List Nat) : ∀ (p : List Ln) (k : Nat) (h : List T) (v4 v5 v6 : Option PyData), In c p → h.length = c → tm 8 h (kp l k p) → ∃ v4' v5' v6',
    forD (fun d ρ => ((gTupD 2 (gConsD (gN 4) (gConsD (gN 5) gNilD))) d ρ).bind (sIf (o2 (fun a b => (inD a b).map (!·)) (oV 4) (oV 2)) (sThen (sA (oL (fun as => F_law_did (as ++ [])) (oCons (oV 3) (oCons (oV 5) oNil))) (gN 3))
      (sIf (o2 gtD (o1 maxD (oLc (o1 iT (oV 3)) (own_law_ran_0.map (·.2)) (gN 6) oYes (oL (fun as => (F_law_deep 12) (as ++ [])) (oCons (oV 6) oNil)))) (oC (.int 8))) (sRt (oC .none)) sNx)) sNx))
      (enumD k (p.map Ln.toD)) [some m, some pd, some (lD l), some (hD h), v4, v5, v6] = some (.nx [some m, some pd, some (lD l), some (hD (runs h (kp l k p))), v4', v5', v6'])
  | [], k, h, v4, v5, v6, _, _, _ => ⟨v4, v5, v6, rfl⟩
  | x :: p, k, h, v4, v5, v6, hp, hs, ht => by
    have hc := g.c3
    have hin : x.in h.length := hs ▸ hp x List.mem_cons_self
    have hp' : In c p := fun y hy => hp y (List.mem_cons_of_mem _ hy)
    by_cases hk : k ∈ l
    · have ek : kp l k (x :: p) = kp l (k + 1) p := if_pos hk
      rw [ek] at ht ⊢
      obtain ⟨w4, w5, w6, ih⟩ := ran_for g (m := m) (pd := pd) l p (k + 1) h (some (.int k)) (some x.toD) v6 hp' hs ht
      refine ⟨w4, w5, w6, ?_⟩
      rw [List.map_cons, enumD]
      exact foC (iN (e2 rfl rfl ((ni_lD k l).trans (by simp [hk]))) rfl) ih
    · have ek : kp l k (x :: p) = x :: kp l (k + 1) p := if_neg hk
      rw [ek] at ht ⊢
      obtain ⟨w4, w5, w6, ih⟩ := ran_for g (m := m) (pd := pd) l p (k + 1) (x.did h) (some (.int k)) (some x.toD) v6 hp' ((did_len _ _).trans hs) ht.2
      refine ⟨w4, w5, w6, ?_⟩
      rw [List.map_cons, enumD]
      have e1' : F_law_did ([hD h, x.toD] ++ []) = some (hD (x.did h)) := F_law_did_ok h x hin (by omega)
      have h1 := ht.1
      refine foC (iY (e2 rfl rfl ((ni_lD k l).trans (by simp [hk]))) (tN (aE (eL rfl e1') rfl) (iN (e2 (maxE (h := x.did h) rfl (by simp [own_law_ran_0]) (ne_of_len g.c1 ((did_len _ _).trans hs)) (by omega) (by rw [did_len]; omega)) rfl (by simp; omega)) rfl))) ih
theorem F_law_ran_ok {c : Nat} {fs : List Nat} (g : Gm c fs) {p : List Ln} (hp : In c p) (l : List Nat) (ht : tm 8 (h0 c) (kp l 0 p)) : F_law_ran [mD c fs, pD p, lD l] = some (hD (runs (h0 c) (kp l 0 p))) := by
  obtain ⟨v4, v5, v6, e⟩ := ran_for g (m := mD c fs) (pd := pD p) l p 0 (h0 c) none none none hp (h0_len c) ht
  exact fn_rt rfl (tN (aE (firstE g rfl) rfl) (tN (foE rfl e) (rE rfl)))
theorem lost_for {c : Nat} (hc : c ≤ 3) {pd : PyData} (l : List Nat) : ∀ (p : List Ln) (k : Nat) (h : List T) (v3 v4 : Option PyData), In c p → h.length = c → tm 8 h (kp l k p) → ∃ v3' v4',
    forD (fun d ρ => ((gTupD 2 (gConsD (gN 3) (gConsD (gN 4) gNilD))) d ρ).bind (sIf (o2 (fun a b => (inD a b).map (!·)) (oV 3) (oV 2)) (sA (oL (fun as => F_done (as ++ [])) (oCons (oV 0) (oCons (oV 4) oNil))) (gN 0)) sNx))
      (enumD k (p.map Ln.toD)) [some (hD h), some pd, some (lD l), v3, v4] = some (.nx [some (hD (runs h (kp l k p))), some pd, some (lD l), v3', v4'])
  | [], k, h, v3, v4, _, _, _ => ⟨v3, v4, rfl⟩
  | x :: p, k, h, v3, v4, hp, hs, ht => by
    have hin : x.in h.length := hs ▸ hp x List.mem_cons_self
    have hp' : In c p := fun y hy => hp y (List.mem_cons_of_mem _ hy)
    by_cases hk : k ∈ l
    · have ek : kp l k (x :: p) = kp l (k + 1) p := if_pos hk
      rw [ek] at ht ⊢
      obtain ⟨w3, w4, ih⟩ := lost_for hc (pd := pd) l p (k + 1) h (some (.int k)) (some x.toD) hp' hs ht
      refine ⟨w3, w4, ?_⟩
      rw [List.map_cons, enumD]
      exact foC (iN (e2 rfl rfl ((ni_lD k l).trans (by simp [hk]))) rfl) ih
    · have ek : kp l k (x :: p) = x :: kp l (k + 1) p := if_neg hk
      rw [ek] at ht ⊢
      obtain ⟨w3, w4, ih⟩ := lost_for hc (pd := pd) l p (k + 1) (x.did h) (some (.int k)) (some x.toD) hp' ((did_len _ _).trans hs) ht.2
      refine ⟨w3, w4, ?_⟩
      rw [List.map_cons, enumD]
      have e1' : F_done ([hD h, x.toD] ++ []) = some (hD (x.did h)) := F_done_ok h x hin (by omega) (Nat.le_trans (le_hdep (mk_in_did hin)) ht.1)
      exact foC (iY (e2 rfl rfl ((ni_lD k l).trans (by simp [hk]))) (aE (eL rfl e1') rfl)) ih
theorem F_lost_behind_ok {c : Nat} (hc : c ≤ 3) {p : List Ln} (hp : In c p) (l : List Nat) (ht : tm 8 (h0 c) (kp l 0 p)) : F_lost_behind [hD (h0 c), pD p, lD l] = some (hD (runs (h0 c) (kp l 0 p))) := by
  obtain ⟨v3, v4, e⟩ := lost_for hc (pd := pD p) l p 0 (h0 c) none none hp (h0_len c) ht
  exact fn_rt rfl (tN (foE rfl e) (rE rfl))
theorem F_first_terms_ok {c : Nat} {fs : List Nat} (g : Gm c fs) : F_first_terms [mD c fs] = some (hD (h0 c)) := fn_rt rfl (rE (firstE g rfl))
end LL
set_option Elab.async false
set_option linter.all false
set_option maxRecDepth 100000
set_option maxHeartbeats 4000000
set_option autoImplicit false
/-! The plain law: what is small is tried: machines, lines, losses. -/
namespace LL
open PySem PySem.Spec PyProof.Rows L2
mutual
def sameD : PyData → PyData → Bool
  | .none, .none => true
  | .bool a, .bool b => a == b
  | .int a, .int b => decide (a = b)
  | .list a, .list b => sameA a b
  | .tuple a, .tuple b => sameA a b
  | _, _ => false
def sameA : List PyData → List PyData → Bool
  | [], [] => true
  | x :: xs, y :: ys => sameD x y && sameA xs ys
  | _, _ => false
end
mutual
theorem sameD_eq : ∀ a b : PyData, sameD a b = true → a = b
  | .none, b, h => by cases b <;> simp [sameD] at h ⊢
  | .bool x, b, h => by
    cases b with
    | bool y => simp [sameD] at h; rw [h]
    | _ => simp [sameD] at h
  | .int x, b, h => by
    cases b with
    | int y => simp [sameD] at h; rw [h]
    | _ => simp [sameD] at h
  | .str x, b, h => by cases b <;> simp [sameD] at h
  | .dict x, b, h => by cases b <;> simp [sameD] at h
  | .list x, b, h => by
    cases b with
    | list y =>
      simp only [sameD] at h
      rw [sameA_eq x y h]
    | _ => simp [sameD] at h
  | .tuple x, b, h => by
    cases b with
    | tuple y =>
      simp only [sameD] at h
      rw [sameA_eq x y h]
    | _ => simp [sameD] at h
theorem sameA_eq : ∀ a b : List PyData, sameA a b = true → a = b
  | [], b, h => by cases b <;> simp [sameA] at h ⊢
  | x :: xs, [], h => by simp [sameA] at h
  | x :: xs, y :: ys, h => by
    simp only [sameA, Bool.and_eq_true] at h
    rw [sameD_eq x y h.1, sameA_eq xs ys h.2]
end
def sameO (a : Option PyData) (b : PyData) : Bool := match a with
  | some x => sameD x b
  | none => false
theorem sameO_eq {a : Option PyData} {b : PyData} (h : sameO a b = true) : a = some b := by
  unfold sameO at h
  split at h
  · rw [sameD_eq _ _ h]
  · cases h
/-- all lines of a machine, in the order of _law_every_line -/
def lines (c : Nat) (fs : List Nat) : List Ln := (List.range c).flatMap fun a =>
  (fs.zipIdx.flatMap fun (r, g) => (List.range c).flatMap fun s => if r = 1 then [Ln.g1 a g s] else (List.range c).map fun t => Ln.g2 a g s t) ++ ((List.range c).filter fun s => s ≠ a).map fun s => Ln.cp a s
theorem every_line_all : ∀ c ∈ [1, 2, 3], ∀ fs ∈ fss, sameO (F_law_every_line [mD c fs]) (.list ((lines c fs).map Ln.toD)) = true := by decide +kernel
theorem F_law_every_line_ok {c : Nat} {fs : List Nat} (g : Gm c fs) : F_law_every_line [mD c fs] = some (.list ((lines c fs).map Ln.toD)) := sameO_eq (g.all every_line_all)
def Ln.inB (n : Nat) : Ln → Bool
  | .cp a s => decide (a < n) && decide (s < n)
  | .g1 a _ s => decide (a < n) && decide (s < n)
  | .g2 a _ s t => decide (a < n) && (decide (s < n) && decide (t < n))
theorem Ln.inB_in {n : Nat} {l : Ln} (h : l.inB n = true) : l.in n := by
  cases l <;> simpa [Ln.inB, Ln.in, and_assoc] using h
/-- a line of the machine -/
def lnB (c : Nat) (fs : List Nat) (l : Ln) : Bool := l.inB c && l.ok c fs && sameO (F_is_line [mD c fs, l.toD]) (.bool true)
theorem lines_all : ∀ c ∈ [1, 2, 3], ∀ fs ∈ fss, ((lines c fs).all (lnB c fs) && (1 ≤ (lines c fs).length && (lines c fs).length ≤ 100)) = true := by decide +kernel
theorem lines_B {c : Nat} {fs : List Nat} (g : Gm c fs) {l : Ln} (h : l ∈ lines c fs) : lnB c fs l = true := by
  have := g.all lines_all
  rw [Bool.and_eq_true] at this
  exact List.all_eq_true.mp this.1 l h
theorem lines_len {c : Nat} {fs : List Nat} (g : Gm c fs) : 1 ≤ (lines c fs).length ∧ (lines c fs).length ≤ 100 := by
  have := g.all lines_all
  rw [Bool.and_eq_true, Bool.and_eq_true, decide_eq_true_eq, decide_eq_true_eq] at this
  exact this.2
theorem lines_in {c : Nat} {fs : List Nat} (g : Gm c fs) {l : Ln} (h : l ∈ lines c fs) : l.in c := by
  have := lines_B g h
  simp only [lnB, Bool.and_eq_true] at this
  exact Ln.inB_in this.1.1
theorem lines_ok {c : Nat} {fs : List Nat} (g : Gm c fs) {l : Ln} (h : l ∈ lines c fs) : l.ok c fs = true := by
  have := lines_B g h
  simp only [lnB, Bool.and_eq_true] at this
  exact this.1.2
theorem F_is_line_ok {c : Nat} {fs : List Nat} (g : Gm c fs) {l : Ln} (h : l ∈ lines c fs) : F_is_line [mD c fs, l.toD] = some (.bool true) := by
  have := lines_B g h
  simp only [lnB, Bool.and_eq_true] at this
  exact sameO_eq this.2
theorem need_machine_all : ∀ c ∈ [1, 2, 3], ∀ fs ∈ fss, sameO (F_need_machine [mD c fs]) .none = true := by decide +kernel
theorem F_need_machine_ok {c : Nat} {fs : List Nat} (g : Gm c fs) : F_need_machine [mD c fs] = some .none := sameO_eq (g.all need_machine_all)
theorem F_need_many_ok {m : Nat} (h : m = 1 ∨ m = 2) : F_need_many [.int (m : Int)] = some .none := by
  rcases h with rfl | rfl
  · exact sameO_eq (by decide +kernel)
  · exact sameO_eq (by decide +kernel)
/-! ### losses -/
/-- all losses of so many lines, in the order of _law_every_loss -/
def EL (many : Nat) : Nat → List (List Nat)
  | 0 => [[]]
  | i + 1 => EL many i ++ ((EL many i).filter fun l => !(decide (many ≤ i) && decide (l.drop (l.length - many) = (List.range many).map (· + (i - many))))).map (· ++ [i])
/-- losses and how many of them end the lines -/
def EJ (many : Nat) : Nat → List (List Nat × Nat)
  | 0 => [([], 0)]
  | i + 1 => (EJ many i).map (fun e => (e.1, 0)) ++ ((EJ many i).filter fun e => decide (e.2 < many)).map fun e => (e.1 ++ [i], e.2 + 1)
theorem every_loss_all : ∀ many ∈ [1, 2], ∀ i ∈ List.range 9, sameO (F_law_every_loss [.int (i : Nat), .int (many : Nat)]) (.list ((EL many i).map lD)) = true := by decide +kernel
theorem every_j_all : ∀ many ∈ [1, 2], ∀ i ∈ List.range 9, ((EL many i).all fun l => (EJ many i).any fun e => decide (e.1 = l)) = true ∧ ((EJ many i).all fun e => (EL many i).any fun l => decide (e.1 = l)) = true := by decide +kernel
theorem mn_mem {m : Nat} (h : m = 1 ∨ m = 2) : m ∈ [1, 2] := by rcases h with rfl | rfl <;> simp
theorem F_law_every_loss_ok {m i : Nat} (h : m = 1 ∨ m = 2) (hi : i ≤ 8) : F_law_every_loss [.int (i : Nat), .int (m : Nat)] = some (.list ((EL m i).map lD)) :=
  sameO_eq (every_loss_all m (mn_mem h) i (List.mem_range.mpr (by omega)))
theorem EL_EJ {m i : Nat} (h : m = 1 ∨ m = 2) (hi : i ≤ 8) {l : List Nat} (hl : l ∈ EL m i) : ∃ t, (l, t) ∈ EJ m i := by
  have := List.all_eq_true.mp (every_j_all m (mn_mem h) i (List.mem_range.mpr (by omega))).1 l hl
  obtain ⟨e, he, h2⟩ := List.any_eq_true.mp this
  rw [decide_eq_true_eq] at h2
  exact ⟨e.2, by rw [← h2]; exact he⟩
theorem EJ_EL {m i : Nat} (h : m = 1 ∨ m = 2) (hi : i ≤ 8) {e : List Nat × Nat} (he : e ∈ EJ m i) : e.1 ∈ EL m i := by
  have := List.all_eq_true.mp (every_j_all m (mn_mem h) i (List.mem_range.mpr (by omega))).2 e he
  obtain ⟨l, hl, h2⟩ := List.any_eq_true.mp this
  rw [decide_eq_true_eq] at h2
  rw [h2]
  exact hl
/-- losses of a program of n lines, as are_losses asks -/
def aB (m n : Nat) (v : PyData) (b : Bool) : Bool := sameO (F_are_losses [.tuple (List.replicate n .none), .int (m : Nat), v]) (.bool b)
theorem are_losses_all : ∀ m ∈ [1, 2], ∀ n ∈ List.range 9, ((EL m n).all fun l => aB m n (lD l) true && (l.all fun k => decide (k < n)) && decide (l.length ≤ n)) = true := by decide +kernel
theorem are_losses_not : ∀ m ∈ [1, 2], ∀ n ∈ List.range 9, (aB m n (lD [0, 0]) false && aB m n (.tuple [.bool true]) false && aB m n (lD [99]) false && aB m n (lD (List.range (m + 1))) false &&
  ((EL m n).all fun l => !decide (l = [0, 0]) && !decide (l = [99]) && !decide (l = List.range (m + 1)))) = true := by decide +kernel
end LL
set_option Elab.async false
set_option linter.all false
set_option maxRecDepth 100000
set_option maxHeartbeats 4000000
set_option autoImplicit false
/-! The plain law: are_losses, terms, wishes, what is fulfilled. -/
namespace LL
open PySem PySem.Spec PyProof.Rows L2
theorem sThen_ifrt {C : DEnv → Option Bool} {d : PyData} {T : DEnv → Option Out} {ρ : DEnv} : sThen (sIf C (sRt (oC d)) sNx) T ρ = (C ρ).bind fun c => if c = true then some (.rt d) else T ρ := by
  rw [ap_sThen, ap_sIf]
  cases C ρ with
  | none => rfl
  | some c => cases c <;> rfl
theorem F_are_losses_len' (a b : List PyData) (hab : a.length = b.length) (m : Int) (v : PyData) : F_are_losses [.tuple a, .int m, v] = F_are_losses [.tuple b, .int m, v] := by
  have h : S_are_losses [some (.tuple a), some (.int m), some v, none, none, none, none] = S_are_losses [some (.tuple b), some (.int m), some v, none, none, none, none] := by
    unfold S_are_losses
    rw [sThen_ifrt, sThen_ifrt, sThen_ifrt, sThen_ifrt]
    have hg : ∀ (x : Option PyData) (d : PyData), (gTupD 2 (gConsD (gN 4) (gConsD (gN 5) gNilD)) d [x, some (PyData.int m), some v, none, none, none, none]).bind (fun ρ1 => (((ρ1[4]?.bind id).bind fun a => (ρ1[5]?.bind id).bind fun b => ltD a b).bind fun b => some (PyData.bool b)).bind asB) = (match d with | .tuple [p, q] => ltD p q | _ => none) := by
      intro x d
      cases d with
      | tuple ds =>
        rcases ds with _ | ⟨p, _ | ⟨q, _ | ⟨r, ds⟩⟩⟩
        · rfl
        · rfl
        · show ((ltD p q).bind fun b => some (PyData.bool b)).bind asB = ltD p q
          cases ltD p q <;> rfl
        · simp
      | _ => rfl
    simp [oQu, own_are_losses_0, own_are_losses_1, own_are_losses_2, hab, hg]
  exact congrArg (fun o : Option Out => match o with | some (.rt d) => some d | some (.nx _) => some PyData.none | none => none) h
theorem F_are_losses_len (p : List Ln) (m : Int) (v : PyData) : F_are_losses [pD p, .int m, v] = F_are_losses [.tuple (List.replicate p.length .none), .int m, v] :=
  F_are_losses_len' _ _ (by simp) m v
theorem F_are_losses_B {p : List Ln} {m n : Nat} {v : PyData} {b : Bool} (hn : p.length = n) (h : aB m n v b = true) : F_are_losses [pD p, .int (m : Nat), v] = some (.bool b) := by
  rw [F_are_losses_len, hn]
  exact sameO_eq h
theorem are_EL {p : List Ln} {m : Nat} (hm : m = 1 ∨ m = 2) (hp : p.length ≤ 8) {l : List Nat} (hl : l ∈ EL m p.length) : F_are_losses [pD p, .int (m : Nat), lD l] = some (.bool true) := by
  have := List.all_eq_true.mp (are_losses_all m (mn_mem hm) p.length (List.mem_range.mpr (by omega))) l hl
  simp only [Bool.and_eq_true] at this
  exact F_are_losses_B rfl this.1.1
theorem EL_lt {m n : Nat} (hm : m = 1 ∨ m = 2) (hp : n ≤ 8) {l : List Nat} (hl : l ∈ EL m n) : (∀ k ∈ l, k < n) ∧ l.length ≤ n := by
  have := List.all_eq_true.mp (are_losses_all m (mn_mem hm) n (List.mem_range.mpr (by omega))) l hl
  simp only [Bool.and_eq_true, decide_eq_true_eq] at this
  exact ⟨fun k hk => of_decide_eq_true (List.all_eq_true.mp this.1.2 k hk), this.2⟩
theorem are_no {p : List Ln} {m : Nat} (hm : m = 1 ∨ m = 2) (hp : p.length ≤ 8) : F_are_losses [pD p, .int (m : Nat), lD [0, 0]] = some (.bool false) ∧ F_are_losses [pD p, .int (m : Nat), .tuple [.bool true]] = some (.bool false) ∧
    F_are_losses [pD p, .int (m : Nat), lD [99]] = some (.bool false) ∧ F_are_losses [pD p, .int (m : Nat), lD (List.range (m + 1))] = some (.bool false) ∧ ∀ l ∈ EL m p.length, l ≠ [0, 0] ∧ l ≠ [99] ∧ l ≠ List.range (m + 1) := by
  have := are_losses_not m (mn_mem hm) p.length (List.mem_range.mpr (by omega))
  simp only [Bool.and_eq_true] at this
  obtain ⟨⟨⟨⟨h1, h2⟩, h3⟩, h4⟩, h5⟩ := this
  refine ⟨F_are_losses_B rfl h1, F_are_losses_B rfl h2, F_are_losses_B rfl h3, F_are_losses_B rfl h4, fun l hl => ?_⟩
  have := List.all_eq_true.mp h5 l hl
  simp only [Bool.and_eq_true, Bool.not_eq_true', decide_eq_false_iff_not] at this
  exact ⟨this.1.1, this.1.2, this.2⟩
/-- a value that is no tuple -/
theorem are_notup {p : List Ln} {m : Nat} {v : PyData} (h : isaD "tuple" v = some false) : F_are_losses [pD p, .int (m : Nat), v] = some (.bool false) :=
  fn_rt rfl (tR (iY (orT (noE (e1 rfl h) rfl)) (rE rfl)))
/-! ### terms -/
def T.ok (c : Nat) (fs : List Nat) : T → Prop
  | .c i => i < c
  | .f1 g t => fs[g]? = some 1 ∧ t.ok c fs
  | .f2 g t u => fs[g]? = some 2 ∧ t.ok c fs ∧ u.ok c fs
theorem mk_ok {c : Nat} {fs : List Nat} {h : List T} (hl : h.length = c) (hh : ∀ t ∈ h, t.ok c fs) {l : Ln} (hi : l.in c) (ho : l.ok c fs = true) : (l.mk h).ok c fs := by
  have g : ∀ {i}, i < c → (gt h i).ok c fs := fun {i} hi => hh _ (by
    have hi : i < h.length := by omega
    simp only [gt, List.getD, List.getElem?_eq_getElem hi, Option.getD_some]
    exact List.getElem_mem hi)
  cases l with
  | cp a s => exact g hi.2
  | g1 a f s =>
    simp only [Ln.ok, Bool.and_eq_true, decide_eq_true_eq] at ho
    exact ⟨ho.2, g hi.2⟩
  | g2 a f s t =>
    simp only [Ln.ok, Bool.and_eq_true, decide_eq_true_eq] at ho
    exact ⟨ho.2, g hi.2.1, g hi.2.2⟩
theorem runs_ok {c : Nat} {fs : List Nat} (g : Gm c fs) : ∀ (q : List Ln) (h : List T), (∀ l ∈ q, l ∈ lines c fs) → h.length = c → (∀ t ∈ h, t.ok c fs) → ∀ t ∈ runs h q, t.ok c fs
  | [], h, _, _, hh => hh
  | l :: q, h, hq, hl, hh => by
    have hm := hq l List.mem_cons_self
    refine runs_ok g q (l.did h) (fun x hx => hq x (List.mem_cons_of_mem _ hx)) ((did_len _ _).trans hl) fun t ht => ?_
    rcases mem_did ht with h1 | rfl
    · exact hh t h1
    · exact mk_ok hl hh (lines_in g hm) (lines_ok g hm)
theorem h0_ok (c : Nat) (fs : List Nat) : ∀ t ∈ h0 c, t.ok c fs := fun t ht => by
  obtain ⟨i, hi, rfl⟩ := List.mem_map.mp ht
  exact List.mem_range.mp hi
theorem fs_ix {fs : List Nat} {g r : Nat} (h : fs[g]? = some r) : atI (fs.map fun r : Nat => PyData.int (r : Int)) (g : Int) = some (.int r) := atI_nat (by rw [List.getElem?_map, h]; rfl)
theorem fs_lt {fs : List Nat} {g r : Nat} (h : fs[g]? = some r) : g < fs.length := (List.getElem?_eq_some_iff.mp h).1
theorem F_is_term_ok {c : Nat} {fs : List Nat} : ∀ (t : T) (n k : Nat), t.ok c fs → t.dep ≤ n → t.dep ≤ k → F_is_term n [mD c fs, t.toD, .int (k : Int)] = some (.bool true)
  | .c i, n, k, h, hn, hk => by
    cases n with
    | zero => simp [T.dep] at hn
    | succ n =>
      have e : F_is_number [.int (i : Int), .int 0, .int ((c : Int) - 1)] = some (.bool true) := by
        rw [F_is_number_int]
        simp only [T.ok] at h
        simp
        omega
      show fnD 3 6 (S_is_term (F_is_term n)) [mD c fs, .int i, .int k] = _
      simp [fnD, S_is_term, runD, mD, e]
  | .f1 g t, n, k, h, hn, hk => by
    cases n with
    | zero => simp [T.dep] at hn
    | succ n =>
      simp only [T.dep] at hn hk
      have hp := T.dep_pos t
      have ih := F_is_term_ok t n (k - 1) h.2 (by omega) (by omega)
      have e : F_is_number [.int (g : Int), .int 0, .int ((fs.length : Int) - 1)] = some (.bool true) := by
        rw [F_is_number_int]
        have := fs_lt h.1
        simp
        omega
      have ek : ((k : Int) - 1) = ((k - 1 : Nat) : Int) := by omega
      have e0 : atI [PyData.int (g : Int), t.toD] 0 = some (.int g) := rfl
      have e9 := fs_ix h.1
      have hb : ¬ ((k : Int) < 2) := by omega
      show fnD 3 6 (S_is_term (F_is_term n)) [mD c fs, .tuple [.int g, t.toD], .int k] = _
      simp [fnD, S_is_term, runD, mD, truD, e0, e, e9, hb, oQu, quD, own_is_term_0]
      rw [ek]
      rw [show F_is_term n [.tuple [.int (c : Int), .tuple (fs.map fun r : Nat => PyData.int (r : Int))], t.toD, .int ((k - 1 : Nat) : Int)] = some (.bool true) from ih]
      rfl
  | .f2 g t u, n, k, h, hn, hk => by
    cases n with
    | zero => simp [T.dep] at hn
    | succ n =>
      simp only [T.dep] at hn hk
      have hp := T.dep_pos t
      have ih := F_is_term_ok t n (k - 1) h.2.1 (by omega) (by omega)
      have ih2 := F_is_term_ok u n (k - 1) h.2.2 (by omega) (by omega)
      have e : F_is_number [.int (g : Int), .int 0, .int ((fs.length : Int) - 1)] = some (.bool true) := by
        rw [F_is_number_int]
        have := fs_lt h.1
        simp
        omega
      have ek : ((k : Int) - 1) = ((k - 1 : Nat) : Int) := by omega
      have e0 : atI [PyData.int (g : Int), t.toD, u.toD] 0 = some (.int g) := rfl
      have e9 := fs_ix h.1
      have hb : ¬ ((k : Int) < 2) := by omega
      show fnD 3 6 (S_is_term (F_is_term n)) [mD c fs, .tuple [.int g, t.toD, u.toD], .int k] = _
      simp [fnD, S_is_term, runD, mD, truD, e0, e, e9, hb, oQu, quD, own_is_term_0]
      rw [ek]
      rw [show F_is_term n [.tuple [.int (c : Int), .tuple (fs.map fun r : Nat => PyData.int (r : Int))], t.toD, .int ((k - 1 : Nat) : Int)] = some (.bool true) from ih, show F_is_term n [.tuple [.int (c : Int), .tuple (fs.map fun r : Nat => PyData.int (r : Int))], u.toD, .int ((k - 1 : Nat) : Int)] = some (.bool true) from ih2]
      rfl
/-! ### wishes -/
def wiT (w : Nat × T) : PyData := .tuple [iD w.1, w.2.toD]
def wD (ws : List (Nat × T)) : PyData := .tuple (ws.map wiT)
structure Wg (c : Nat) (fs : List Nat) (ws : List (Nat × T)) : Prop where
  ne : ws ≠ []
  len : ws.length ≤ 3
  ok : ∀ w ∈ ws, w.1 < c ∧ w.2.ok c fs ∧ w.2.dep ≤ 8
  up : ws.Pairwise fun a b => a.1 < b.1
theorem F_is_wish_ok {c : Nat} {fs : List Nat} {w : Nat × T} (h : w.1 < c ∧ w.2.ok c fs ∧ w.2.dep ≤ 8) : F_is_wish [mD c fs, wiT w] = some (.bool true) := by
  have e : F_is_number [.int (w.1 : Int), .int 0, .int ((c : Int) - 1)] = some (.bool true) := by
    rw [F_is_number_int]
    simp
    omega
  have e2 : F_is_term 9 [.tuple [.int (c : Int), .tuple (fs.map fun r : Nat => PyData.int (r : Int))], w.2.toD, .int 8] = some (.bool true) := F_is_term_ok w.2 9 8 h.2.1 (by omega) (by omega)
  have ea : atI [PyData.int (w.1 : Int), w.2.toD] 0 = some (.int w.1) := rfl
  have eb : atI [PyData.int (w.1 : Int), w.2.toD] 1 = some w.2.toD := rfl
  have ec : atI [PyData.int (c : Int), .tuple (fs.map fun r : Nat => PyData.int (r : Int))] 0 = some (.int c) := rfl
  simp [F_is_wish, fnD, S_is_wish, runD, mD, wiT, iD, ea, eb, ec, e, e2]
theorem wishes_for {c : Nat} {fs : List Nat} (ws : List (Nat × T)) (hok : ∀ w ∈ ws, w.1 < c ∧ w.2.ok c fs ∧ w.2.dep ≤ 8) (up : ws.Pairwise fun a b => a.1 < b.1) : ∀ (su pre : List (Nat × T)) (v2 v3 : Option PyData), ws = pre ++ su → ∃ v2' v3',
    forD (fun d ρ => ((gTupD 2 (gConsD (gN 2) (gConsD (gN 3) gNilD))) d ρ).bind (sIf (oOr (oNot (o1 asB (oL (fun as => F_is_wish (as ++ [])) (oCons (oV 0) (oCons (oV 3) oNil))))) (oAnd (o2 gtD (oV 2) (oC (.int 0))) (o2 geD (o2 ixD (o2 ixD (oV 1) (o2 subD (oV 2) (oC (.int 1)))) (oC (.int 0))) (o2 ixD (oV 3) (oC (.int 0)))))) sNo sNx))
      (enumD pre.length (su.map wiT)) [some (mD c fs), some (wD ws), v2, v3] = some (.nx [some (mD c fs), some (wD ws), v2', v3'])
  | [], pre, v2, v3, _ => ⟨v2, v3, rfl⟩
  | w :: su, pre, v2, v3, e => by
    obtain ⟨u2, u3, ih⟩ := wishes_for ws hok up su (pre ++ [w]) (some (.int pre.length)) (some (wiT w)) (by rw [e]; simp)
    refine ⟨u2, u3, ?_⟩
    rw [List.length_append] at ih
    rw [List.map_cons, enumD]
    refine foC (iN (orF (noE (e1 (eL rfl (F_is_wish_ok (hok w (by rw [e]; simp)))) rfl) rfl) ?_) rfl) ih
    by_cases hz : pre.length = 0
    · exact anF (e2 rfl rfl (by simp [hz]))
    · refine anT (e2 rfl rfl (by simp; omega)) ?_
      obtain ⟨pr, v, rfl⟩ : ∃ pr v, pre = pr ++ [v] := ⟨pre.dropLast, pre.getLast (fun z => hz (by rw [z]; rfl)), (List.dropLast_concat_getLast _).symm⟩
      have hlt : v.1 < w.1 := by
        rw [e, List.append_assoc] at up
        have := (List.pairwise_append.mp up).2.1
        simp only [List.singleton_append, List.pairwise_cons] at this
        exact this.1 w (by simp)
      have ev : atI (ws.map wiT) (((pr ++ [v]).length : Int) - 1) = some (wiT v) := by
        have : (((pr ++ [v]).length : Int) - 1) = ((pr.length : Nat) : Int) := by simp
        rw [this]
        refine atI_nat ?_
        rw [e]
        simp
      refine e2 (e2 (e2 rfl (e2 rfl rfl rfl) ev) rfl rfl) (e2 rfl rfl rfl) ?_
      show some (decide ((w.1 : Int) ≤ (v.1 : Int))) = some false
      simp
      omega
theorem F_need_wishes_ok {c : Nat} {fs : List Nat} {ws : List (Nat × T)} (h : Wg c fs ws) : F_need_wishes [mD c fs, wD ws] = some .none := by
  obtain ⟨v2, v3, e⟩ := wishes_for ws h.ok h.up ws [] none none rfl
  refine fn_nx rfl (tN (iN (orF (noE (e1 rfl (isa_tup_t _)) rfl) (noE (b := true) (e1 rfl ?_) rfl)) rfl) (foE rfl e))
  show some (!(ws.map wiT).isEmpty) = some true
  have := h.ne
  cases ws with
  | nil => exact absurd rfl this
  | cons _ _ => rfl
theorem program_for {c : Nat} {fs : List Nat} (g : Gm c fs) {pd : PyData} : ∀ (p : List Ln) (k : Nat) (v2 v3 : Option PyData), (∀ l ∈ p, l ∈ lines c fs) → ∃ v2' v3',
    forD (fun d ρ => ((gTupD 2 (gConsD (gN 2) (gConsD (gN 3) gNilD))) d ρ).bind (sIf (oNot (o1 asB (oL (fun as => F_is_line (as ++ [])) (oCons (oV 0) (oCons (oV 3) oNil))))) sNo sNx))
      (enumD k (p.map Ln.toD)) [some (mD c fs), some pd, v2, v3] = some (.nx [some (mD c fs), some pd, v2', v3'])
  | [], k, v2, v3, _ => ⟨v2, v3, rfl⟩
  | l :: p, k, v2, v3, hp => by
    obtain ⟨u2, u3, ih⟩ := program_for g (pd := pd) p (k + 1) (some (.int k)) (some l.toD) fun x hx => hp x (List.mem_cons_of_mem _ hx)
    refine ⟨u2, u3, ?_⟩
    rw [List.map_cons, enumD]
    exact foC (iN (noE (e1 (eL rfl (F_is_line_ok g (hp l List.mem_cons_self))) rfl) rfl) rfl) ih
theorem F_need_program_ok {c : Nat} {fs : List Nat} (g : Gm c fs) {p : List Ln} (hp : ∀ l ∈ p, l ∈ lines c fs) (hl : p.length ≤ 8) : F_need_program [mD c fs, pD p] = some .none := by
  obtain ⟨v2, v3, e⟩ := program_for g (pd := pD p) p 0 none none hp
  exact fn_nx rfl (tN (iN (orF (noE (e1 rfl (isa_tup_t _)) rfl) (e2 (e1 rfl rfl) rfl (by simp; omega))) rfl) (foE rfl e))
theorem F_need_wished_ok {c : Nat} {fs : List Nat} (g : Gm c fs) {p : List Ln} (hp : ∀ l ∈ p, l ∈ lines c fs) (hl : p.length ≤ 8) {m : Nat} (hm : m = 1 ∨ m = 2) {ws : List (Nat × T)} (h : Wg c fs ws) : F_need_wished [mD c fs, pD p, .int (m : Int), wD ws] = some .none :=
  fn_nx rfl (tN (xE (eL rfl (F_need_machine_ok g))) (tN (xE (eL rfl (F_need_program_ok g hp hl))) (tN (xE (eL rfl (F_need_many_ok hm))) (xE (eL rfl (F_need_wishes_ok h))))))
/-! ### fulfilled -/
def ful (ws : List (Nat × T)) (h : List T) : Bool := ws.all fun w => decide (gt h w.1 = w.2)
theorem gt_dep {h : List T} {i : Nat} (hi : i < h.length) : (gt h i).dep ≤ hdep h := le_hdep (by
  simp only [gt, List.getD, List.getElem?_eq_getElem hi, Option.getD_some]
  exact List.getElem_mem hi)
theorem F_fulfilled_ok {ws : List (Nat × T)} {h : List T} (hw : ∀ w ∈ ws, w.1 < h.length ∧ w.2.dep ≤ 8) (hd : hdep h ≤ 12) : F_fulfilled [hD h, wD ws] = some (.bool (ful ws h)) := by
  refine fn_rt rfl (rE (eB (oQu_all wiT (fun w => decide (gt h w.1 = w.2)) ws (e1 rfl rfl) fun w hx => ?_)))
  obtain ⟨h1, h2⟩ := hw w hx
  have h3 := gt_dep h1
  exact ⟨_, rfl, eB (e2 (e2 rfl rfl (hD_get h1)) rfl ((eq_sh (toD_sh (by omega)) (toD_sh (by omega))).trans (by rw [eqv_T])))⟩
/-- the list of broken wishes is not empty -/
theorem F_law_bad_ok {c : Nat} {fs : List Nat} (g : Gm c fs) {p : List Ln} (hp : In c p) (l : List Nat) (ht : tm 8 (h0 c) (kp l 0 p)) {ws : List (Nat × T)} (hw : ∀ w ∈ ws, w.1 < c ∧ w.2.dep ≤ 8) (hwl : ws.length ≤ 3) (hd : hdep (runs (h0 c) (kp l 0 p)) ≤ 12) :
    F_law_bad [mD c fs, pD p, lD l, wD ws] = some (.bool (!ful ws (runs (h0 c) (kp l 0 p)))) := by
  refine fn_rt rfl (tN (aE (eL rfl (F_law_ran_ok g hp l ht)) rfl) (rE (eB (e2 (oLc_filter wiT (fun _ => .int 1) (fun w => !decide (gt (runs (h0 c) (kp l 0 p)) w.1 = w.2)) ws (e1 rfl rfl) (by omega) fun w hx => ?_) (eL rfl ap_mkL0) ?_))))
  · obtain ⟨h1, h2⟩ := hw w hx
    have hl : w.1 < (runs (h0 c) (kp l 0 p)).length := by rw [runs_len, h0_len]; exact h1
    have h3 := gt_dep hl
    exact ⟨rfl, _, rfl, e2 (e2 rfl rfl (hD_get hl)) rfl ((ne_sh (toD_sh (by omega)) (toD_sh (by omega))).trans (by rw [eqv_T])), fun _ => rfl⟩
  · unfold neD
    rw [if_pos ⟨sh_list fun x hx => by
      obtain ⟨_, _, rfl⟩ := List.mem_map.mp hx
      exact Sh.int _, sh_list fun x hx => by cases hx⟩]
    congr 2
    unfold ful
    rw [List.all_eq_not_any_not]
    cases hf : (ws.filter fun w => !decide (gt (runs (h0 c) (kp l 0 p)) w.1 = w.2)) with
    | nil =>
      have : ws.any (fun w => !decide (gt (runs (h0 c) (kp l 0 p)) w.1 = w.2)) = false := by
        rw [List.any_eq_false]
        intro x hx hq
        have : x ∈ ws.filter fun w => !decide (gt (runs (h0 c) (kp l 0 p)) w.1 = w.2) := List.mem_filter.mpr ⟨hx, hq⟩
        rw [hf] at this
        cases this
      rw [this]
      rfl
    | cons x r =>
      have hx : x ∈ ws.filter fun w => !decide (gt (runs (h0 c) (kp l 0 p)) w.1 = w.2) := by rw [hf]; exact List.mem_cons_self
      have : ws.any (fun w => !decide (gt (runs (h0 c) (kp l 0 p)) w.1 = w.2)) = true := List.any_eq_true.mpr ⟨x, List.mem_filter.mp hx⟩
      rw [this]
      simp [PyData.eqv, PyData.eqvAll]
end LL
set_option Elab.async false
set_option linter.all false
set_option maxRecDepth 100000
set_option maxHeartbeats 4000000
set_option autoImplicit false
/-! The plain law: how deep the terms get. -/
namespace LL
open PySem PySem.Spec PyProof.Rows L2
theorem tm_mono {n m : Nat} (hnm : n ≤ m) : ∀ {q : List Ln} {h : List T}, tm n h q → tm m h q
  | [], _, _ => True.intro
  | l :: r, h, ht => ⟨Nat.le_trans ht.1 hnm, tm_mono hnm ht.2⟩
theorem tm_end {n : Nat} : ∀ {q : List Ln} {h : List T}, tm n h q → hdep h ≤ n → hdep (runs h q) ≤ n
  | [], _, _, hh => hh
  | l :: r, h, ht, _ => tm_end (q := r) (h := l.did h) ht.2 ht.1
theorem tm_take {n : Nat} : ∀ {q : List Ln} {h : List T} (i : Nat), tm n h q → tm n h (q.take i)
  | [], _, i, _ => by simp [tm]
  | l :: r, h, 0, _ => True.intro
  | l :: r, h, i + 1, ht => ⟨ht.1, tm_take i ht.2⟩
theorem run_count {c : Nat} : ∀ (q : List Ln) (h : List T), In c q → h.length = c → hdep (runs h q) ≤ hdep h + q.length
  | [], h, _, _ => Nat.le_refl _
  | l :: q, h, hq, hl => by
    have h1 := did_dep l (h := h) (hl ▸ hq l List.mem_cons_self)
    have h2 := run_count q (l.did h) (fun x hx => hq x (List.mem_cons_of_mem _ hx)) ((did_len _ _).trans hl)
    rw [runs, List.length_cons]
    omega
/-! ### tame -/
theorem tame_sub : ∀ (p : List Ln) (s : List T × List Ln), ((p.foldl tameS s).2).Sublist (s.2 ++ p)
  | [], s => by simp
  | l :: p, s => by
    have ih := tame_sub p (tameS s l)
    rw [List.foldl_cons]
    refine ih.trans ?_
    unfold tameS
    by_cases h : hdep (l.did s.1) < 6
    · rw [if_pos h]
      simp
    · rw [if_neg h]
      exact List.Sublist.append (List.Sublist.refl _) (List.sublist_cons_self _ _)
theorem tame_tm (h : List T) : ∀ (p : List Ln) (s : List T × List Ln), s.1 = runs h s.2 → tm 5 h s.2 → tm 5 h (p.foldl tameS s).2
  | [], s, _, ht => ht
  | l :: p, s, hs, ht => by
    rw [List.foldl_cons]
    by_cases hb : hdep (l.did s.1) < 6
    · have e : tameS s l = (l.did s.1, s.2 ++ [l]) := if_pos hb
      rw [e]
      refine tame_tm h p _ ?_ ?_
      · show l.did s.1 = runs h (s.2 ++ [l])
        rw [runs_app, ← hs]; rfl
      · show tm 5 h (s.2 ++ [l])
        rw [tm_app, ← hs]
        exact ⟨ht, Nat.le_of_lt_succ hb, True.intro⟩
    · have e : tameS s l = s := if_neg hb
      rw [e]
      exact tame_tm h p s hs ht
theorem tame_sub0 (c : Nat) (p : List Ln) : (tame c p).Sublist p := by
  have := tame_sub p (h0 c, [])
  rw [List.nil_append] at this
  exact this
theorem tame_tm0 (c : Nat) (p : List Ln) : tm 5 (h0 c) (tame c p) := tame_tm (h0 c) p (h0 c, []) rfl True.intro
/-! ### each line twice -/
def times : List Ln → List Ln
  | [] => []
  | l :: r => l :: l :: times r
theorem times_len : ∀ q : List Ln, (times q).length = 2 * q.length
  | [] => rfl
  | l :: r => by simp only [times, List.length_cons, times_len r]; omega
theorem times_mem : ∀ {q : List Ln} {l : Ln}, l ∈ times q → l ∈ q
  | x :: r, l, h => by
    simp only [times, List.mem_cons] at h ⊢
    rcases h with h | h | h
    · exact .inl h
    · exact .inl h
    · exact .inr (times_mem h)
/-- as deep as, cell by cell -/
def dle (h h' : List T) : Prop := h.length = h'.length ∧ ∀ i, (gt h i).dep ≤ (gt h' i).dep
theorem gt_did {h : List T} {l : Ln} (hl : l.in h.length) (i : Nat) : gt (l.did h) i = if i = l.cell then l.mk h else gt h i := by
  have hc := Ln.in_cell hl
  unfold Ln.did gt
  by_cases hi : i = l.cell
  · subst hi
    rw [if_pos rfl]
    simp [List.getD, List.getElem?_set_self hc]
  · rw [if_neg hi]
    simp [List.getD, List.getElem?_set_ne (Ne.symm hi)]
theorem mk_mono {h h' : List T} (d : ∀ i, (gt h i).dep ≤ (gt h' i).dep) (l : Ln) : (l.mk h).dep ≤ (l.mk h').dep := by
  cases l with
  | cp a s => exact d s
  | g1 a g s =>
    have := d s
    simp only [Ln.mk, T.dep]; omega
  | g2 a g s t =>
    have h1 := d s
    have h2 := d t
    simp only [Ln.mk, T.dep]; omega
theorem dle_did {h h' : List T} (d : dle h h') {l : Ln} (hl : l.in h.length) : dle (l.did h) (l.did h') := ⟨by rw [did_len, did_len]; exact d.1, fun i => by
  rw [gt_did hl, gt_did (d.1 ▸ hl)]
  by_cases hi : i = l.cell
  · rw [if_pos hi, if_pos hi]
    exact mk_mono d.2 l
  · rw [if_neg hi, if_neg hi]
    exact d.2 i⟩
theorem mk_twice {h : List T} {l : Ln} (hl : l.in h.length) : (l.mk h).dep ≤ (l.mk (l.did h)).dep := by
  cases l with
  | cp a s =>
    show (gt h s).dep ≤ (gt ((Ln.cp a s).did h) s).dep
    rw [gt_did hl]
    by_cases hs : s = a
    · rw [if_pos (by exact hs)]; exact Nat.le_refl _
    · rw [if_neg (by exact hs)]; exact Nat.le_refl _
  | g1 a g s =>
    show 1 + (gt h s).dep ≤ 1 + (gt ((Ln.g1 a g s).did h) s).dep
    rw [gt_did hl]
    by_cases hs : s = a
    · rw [if_pos (by exact hs)]
      simp only [Ln.mk, T.dep]; omega
    · rw [if_neg (by exact hs)]; exact Nat.le_refl _
  | g2 a g s t =>
    have e : ∀ i, i = s ∨ i = t → (gt h i).dep ≤ (gt ((Ln.g2 a g s t).did h) i).dep := by
      intro i hi
      rw [gt_did hl]
      by_cases hs : i = a
      · rw [if_pos (by exact hs)]
        simp only [Ln.mk, T.dep]
        rcases hi with rfl | rfl <;> omega
      · rw [if_neg (by exact hs)]; exact Nat.le_refl _
    have h1 := e s (.inl rfl)
    have h2 := e t (.inr rfl)
    show 1 + max (gt h s).dep (gt h t).dep ≤ 1 + max (gt ((Ln.g2 a g s t).did h) s).dep (gt ((Ln.g2 a g s t).did h) t).dep
    omega
theorem dle_twice {h : List T} {l : Ln} (hl : l.in h.length) : dle (l.did h) (l.did (l.did h)) := ⟨by rw [did_len, did_len, did_len], fun i => by
  have hl' : l.in (l.did h).length := by rw [did_len]; exact hl
  rw [gt_did hl, gt_did hl', gt_did hl]
  by_cases hi : i = l.cell
  · rw [if_pos hi, if_pos hi]
    exact mk_twice hl
  · rw [if_neg hi, if_neg hi]
    exact Nat.le_refl _⟩
theorem dle.trans {a b c : List T} (h1 : dle a b) (h2 : dle b c) : dle a c := ⟨h1.1.trans h2.1, fun i => Nat.le_trans (h1.2 i) (h2.2 i)⟩
theorem dle_runs {c : Nat} : ∀ (q : List Ln) {h h' : List T}, In c q → h.length = c → dle h h' → dle (runs h q) (runs h' q)
  | [], _, _, _, _, d => d
  | l :: q, h, h', hq, hl, d => dle_runs q (fun x hx => hq x (List.mem_cons_of_mem _ hx)) ((did_len _ _).trans hl) (dle_did d (hl ▸ hq l List.mem_cons_self))
theorem dle_hdep {h h' : List T} (d : dle h h') : hdep h ≤ hdep h' := hdep_le fun t ht => by
  obtain ⟨i, hi, rfl⟩ := List.mem_iff_getElem.mp ht
  have h1 := d.2 i
  have h2 : gt h i = h[i] := by simp [gt, List.getD, List.getElem?_eq_getElem hi]
  rw [h2] at h1
  exact Nat.le_trans h1 (gt_dep (d.1 ▸ hi))
theorem pair_lost {c : Nat} : ∀ (q : List Ln) (h h' : List T) (j : Nat), In c q → h.length = c → dle h h' → j < (times q).length → dle (runs h ((times q).eraseIdx j)) (runs h' (times q))
  | [], h, h', j, _, _, _, hj => by simp [times] at hj
  | l :: q, h, h', j, hq, hl, d, hj => by
    have hin : l.in h.length := hl ▸ hq l List.mem_cons_self
    have hq' : In c q := fun x hx => hq x (List.mem_cons_of_mem _ hx)
    have hqt : In c (times q) := fun x hx => hq' x (times_mem hx)
    have hl' : (l.did h).length = c := (did_len _ _).trans hl
    have hin' : l.in (l.did h).length := by rw [did_len]; exact hin
    have key : dle (runs (l.did h) (times q)) (runs (l.did (l.did h')) (times q)) := dle_runs _ hqt hl' ((dle_twice hin).trans (dle_did (dle_did d hin) hin'))
    match j, hj with
    | 0, _ => exact key
    | 1, _ => exact key
    | j + 2, hj =>
      have hj' : j < (times q).length := by simp only [times, List.length_cons] at hj; omega
      exact pair_lost q (l.did (l.did h)) (l.did (l.did h')) j hq' ((did_len _ _).trans hl') (dle_did (dle_did d hin) hin') hj'
/-! ### what happens -/
theorem kp_sub (l : List Nat) : ∀ (p : List Ln) (k : Nat), (kp l k p).Sublist p
  | [], _ => List.Sublist.refl _
  | x :: p, k => by
    unfold kp
    by_cases h : k ∈ l
    · rw [if_pos h]; exact (kp_sub l p (k + 1)).cons x
    · rw [if_neg h]; exact (kp_sub l p (k + 1)).cons_cons x
theorem kp_all {l : List Nat} {p : List Ln} {k : Nat} (h : (kp l k p).length = p.length) : kp l k p = p := (kp_sub l p k).eq_of_length h
theorem kp_one (l : List Nat) : ∀ (p : List Ln) (k : Nat), (kp l k p).length + 1 = p.length → ∃ j, j < p.length ∧ kp l k p = p.eraseIdx j
  | [], _, h => by simp at h
  | x :: p, k, h => by
    unfold kp at h ⊢
    by_cases hk : k ∈ l
    · rw [if_pos hk] at h ⊢
      refine ⟨0, by simp, ?_⟩
      rw [kp_all (by simpa using h)]
      rfl
    · rw [if_neg hk] at h ⊢
      obtain ⟨j, h1, h2⟩ := kp_one l p (k + 1) (by simpa using h)
      exact ⟨j + 1, by simpa using h1, by rw [h2]; rfl⟩
theorem kp_app (l : List Nat) : ∀ (p r : List Ln) (k : Nat), kp l k (p ++ r) = kp l k p ++ kp l (k + p.length) r
  | [], r, k => rfl
  | x :: p, r, k => by
    have ih := kp_app l p r (k + 1)
    have e : k + 1 + p.length = k + (x :: p).length := by rw [List.length_cons]; omega
    rw [e] at ih
    have ec : ∀ q : List Ln, kp l k (x :: q) = if k ∈ l then kp l (k + 1) q else x :: kp l (k + 1) q := fun _ => rfl
    rw [List.cons_append, ec, ec]
    by_cases h : k ∈ l
    · rw [if_pos h, if_pos h]
      exact ih
    · rw [if_neg h, if_neg h, ih]; rfl
theorem mem_times : ∀ {q : List Ln} {x : Ln}, x ∈ q → x ∈ times q
  | y :: r, x, hx => by
    simp only [times, List.mem_cons] at hx ⊢
    rcases hx with hx | hx
    · exact .inl hx
    · exact .inr (.inr (mem_times hx))
/-- the program that the law asks of -/
structure Pg (c : Nat) (fs : List Nat) (p : List Ln) : Prop where
  ln : ∀ l ∈ p, l ∈ lines c fs
  t5 : tm 5 (h0 c) p
  len : p.length ≤ 8
  pr : p.length = 8 → ∃ q, p = times q
theorem Pg.in {c : Nat} {fs : List Nat} {p : List Ln} (g : Gm c fs) (h : Pg c fs p) : In c p := fun l hl => lines_in g (h.ln l hl)
theorem lossy {c : Nat} {fs : List Nat} {p : List Ln} (g : Gm c fs) (h : Pg c fs p) (i : Nat) (l : List Nat) : hdep (runs (h0 c) (kp l 0 (p.take i))) ≤ 7 := by
  have hin : In c (kp l 0 (p.take i)) := fun x hx => h.in g x (List.mem_of_mem_take ((kp_sub l _ _).subset hx))
  have h1 := run_count _ _ hin (h0_len c)
  have h2 := h0_dep c
  have h3 := (kp_sub l (p.take i) 0).length_le
  have h4 : (p.take i).length ≤ p.length := by rw [List.length_take]; omega
  have h5 := h.len
  have t := tm_end (tm_take i h.t5) (Nat.le_trans h2 (by omega))
  by_cases e6 : (kp l 0 (p.take i)).length ≤ 6
  · omega
  · by_cases ea : (kp l 0 (p.take i)).length = (p.take i).length
    · rw [kp_all ea]
      omega
    · have e8 : (p.take i).length = 8 := by omega
      have ep : p.take i = p := List.take_of_length_le (by rw [List.length_take] at e8; omega)
      have el : p.length = 8 := by omega
      obtain ⟨q, hq⟩ := h.pr el
      rw [ep] at ea e6 h3 t ⊢
      obtain ⟨j, hj, ej⟩ := kp_one l p 0 (by omega)
      have hj' : j < (times q).length := by rw [← hq]; exact hj
      have hqi : In c q := by
        intro x hx
        have : x ∈ times q := mem_times hx
        exact h.in g x (by rw [hq]; exact this)
      have d := dle_hdep (pair_lost q (h0 c) (h0 c) j hqi (h0_len c) ⟨rfl, fun _ => Nat.le_refl _⟩ hj')
      rw [← hq] at d
      rw [ej]
      omega
theorem lossy_tm {c : Nat} {fs : List Nat} {p : List Ln} (g : Gm c fs) (h : Pg c fs p) (l : List Nat) : ∀ i, tm 7 (h0 c) (kp l 0 (p.take i))
  | 0 => by simp [kp, tm]
  | i + 1 => by
    have ih := lossy_tm g h l i
    by_cases hi : i < p.length
    · have e : p.take (i + 1) = p.take i ++ [p[i]] := by simp
      have hl := lossy g h (i + 1) l
      rw [e, kp_app] at hl ⊢
      rw [tm_app]
      refine ⟨ih, ?_⟩
      rw [runs_app] at hl
      unfold kp at hl ⊢
      by_cases hk : 0 + (p.take i).length ∈ l
      · rw [if_pos hk]; exact True.intro
      · rw [if_neg hk] at hl ⊢
        exact ⟨hl, True.intro⟩
    · have e : p.take (i + 1) = p.take i := by rw [List.take_of_length_le (by omega), List.take_of_length_le (by omega)]
      rw [e]
      exact ih
end LL
set_option Elab.async false
set_option linter.all false
set_option maxRecDepth 100000
set_option maxHeartbeats 4000000
set_option autoImplicit false
/-! The plain law: the dicts of what is held, typed. -/
namespace LL
open PySem PySem.Spec PyProof.Rows L2
abbrev Ky := List T × Nat
abbrev Dc := List (Ky × List Nat)
def kD (k : Ky) : PyData := .tuple [hD k.1, iD k.2]
def eD (e : Ky × List Nat) : PyData × PyData := (kD e.1, lD e.2)
def dD (D : Dc) : KVs := D.map eD
theorem kD_kd (k : Ky) : isKd (kD k) = true := by
  show areKd [hD k.1, iD k.2] = true
  simp [areKd, hD_kd, iD, isKd]
theorem iD_inj {a b : Nat} (h : iD a = iD b) : a = b := by
  simp only [iD, PyData.int.injEq] at h
  omega
theorem kD_inj {a b : Ky} (h : kD a = kD b) : a = b := by
  simp only [kD, PyData.tuple.injEq, List.cons.injEq, and_true] at h
  exact Prod.ext (hD_inj h.1) (iD_inj h.2)
theorem nk_kD {a b : Ky} : nk (kD a) = nk (kD b) ↔ a = b := ⟨fun h => kD_inj (nk_inj _ _ (kD_kd a) (kD_kd b) h), fun h => by rw [h]⟩
theorem hD_nk {h : List T} {n : Nat} (hd : hdep h ≤ n + 1) : (nk (hD h)).depth ≤ n + 1 := by
  show (nk (.tuple (h.map T.toD))).depth ≤ n + 1
  simp only [nk, NestedKey.depth]
  have := nkA_of (n := n) (xs := h.map T.toD) fun x hx => by
    obtain ⟨t, ht, rfl⟩ := List.mem_map.mp hx
    have h1 := toD_nk t
    have h2 := le_hdep ht
    omega
  omega
theorem kD_nk {k : Ky} (hd : hdep k.1 ≤ 7) : (nk (kD k)).depth ≤ 8 := by
  have := hD_nk (n := 6) hd
  show (nk (.tuple [hD k.1, iD k.2])).depth ≤ 8
  simp only [nk, nks, NestedKey.depth, NestedKey.depthAll, iD]
  omega
def getT (D : Dc) (k : Ky) : Option (Ky × List Nat) := D.find? fun e => decide (e.1 = k)
def putT (D : Dc) (k : Ky) (l : List Nat) : Dc := D.map fun p => if p.1 = k then (p.1, l) else p
def keepT (D : Dc) (k : Ky) (l : List Nat) : Dc := match getT D k with
  | none => D ++ [(k, l)]
  | some e => if l.length < e.2.length then putT D k l else D
theorem dget_T (D : Dc) (k : Ky) : dgetD (dD D) (kD k) = (getT D k).map fun e => lD e.2 := by
  unfold dgetD dD getT
  rw [List.find?_map, Option.map_map]
  congr 1
  congr 1
  funext e
  show decide (nk (kD e.1) = nk (kD k)) = decide (e.1 = k)
  rw [Bool.eq_iff_iff, decide_eq_true_eq, decide_eq_true_eq]
  exact nk_kD
theorem dput_T (D : Dc) (k : Ky) (l : List Nat) : dputD (dD D) (kD k) (lD l) = dD (if (getT D k).isSome then putT D k l else D ++ [(k, l)]) := by
  unfold dputD
  rw [dget_T, Option.isSome_map]
  by_cases h : (getT D k).isSome
  · rw [if_pos h, if_pos h]
    unfold dD putT
    rw [List.map_map, List.map_map]
    refine List.map_congr_left fun e _ => ?_
    show (if nk (kD e.1) = nk (kD k) then (kD e.1, lD l) else eD e) = eD (if e.1 = k then (e.1, l) else e)
    by_cases he : e.1 = k
    · rw [if_pos he, if_pos (nk_kD.mpr he)]; rfl
    · rw [if_neg he, if_neg fun z => he (nk_kD.mp z)]
  · rw [if_neg h, if_neg h]
    simp [dD, eD]
theorem keepD_T {D : Dc} {k : Ky} {l : List Nat} (hd : hdep k.1 ≤ 7) (hl : D.length < 16777216) : keepD (dD D) (kD k) (lD l) = some (dD (keepT D k l)) := by
  unfold keepD
  have h1 : (dD D).length = D.length := List.length_map _
  rw [if_pos ⟨kD_kd k, kD_nk hd, by rw [h1]; exact hl⟩]
  show (match dgetD (dD D) (kD k) with
    | none => some (dputD (dD D) (kD k) (lD l))
    | some (.tuple old) => if (l.map iD).length < old.length then some (dputD (dD D) (kD k) (lD l)) else some (dD D)
    | some _ => none) = _
  rw [dput_T, dget_T]
  unfold keepT
  cases hg : getT D k with
  | none => rfl
  | some e =>
    show (if (l.map iD).length < (e.2.map iD).length then some (dD (putT D k l)) else some (dD D)) = some (dD (if l.length < e.2.length then putT D k l else D))
    rw [List.length_map, List.length_map]
    by_cases hl : l.length < e.2.length
    · rw [if_pos hl, if_pos hl]
    · rw [if_neg hl, if_neg hl]
/-! ### what keep keeps -/
theorem getT_some {D : Dc} {k : Ky} {e : Ky × List Nat} (h : getT D k = some e) : e ∈ D ∧ e.1 = k := ⟨List.mem_of_find?_eq_some h, by
  have := List.find?_some (p := fun e : Ky × List Nat => decide (e.1 = k)) h
  exact of_decide_eq_true this⟩
theorem getT_none {D : Dc} {k : Ky} (h : getT D k = none) : ∀ e ∈ D, e.1 ≠ k := fun e he z => by
  have := List.find?_eq_none.mp h e he
  simp [z] at this
def Kn (D : Dc) : Prop := (D.map (·.1)).Nodup
theorem Kn.eq {D : Dc} (h : Kn D) {a b : Ky × List Nat} (ha : a ∈ D) (hb : b ∈ D) (e : a.1 = b.1) : a = b := by
  induction D with
  | nil => cases ha
  | cons x r ih =>
    unfold Kn at h
    rw [List.map_cons, List.nodup_cons] at h
    rcases List.mem_cons.mp ha with ea | ha'
    · rcases List.mem_cons.mp hb with eb | hb'
      · rw [ea, eb]
      · exact absurd (List.mem_map.mpr ⟨b, hb', by rw [← e, ea]⟩) h.1
    · rcases List.mem_cons.mp hb with eb | hb'
      · exact absurd (List.mem_map.mpr ⟨a, ha', by rw [e, eb]⟩) h.1
      · exact ih h.2 ha' hb'
theorem putT_keys (D : Dc) (k : Ky) (l : List Nat) : (putT D k l).map (·.1) = D.map (·.1) := by
  unfold putT
  rw [List.map_map]
  refine List.map_congr_left fun e _ => ?_
  show (if e.1 = k then (e.1, l) else e).1 = e.1
  by_cases he : e.1 = k
  · rw [if_pos he]
  · rw [if_neg he]
theorem keep_kn {D : Dc} (h : Kn D) (k : Ky) (l : List Nat) : Kn (keepT D k l) := by
  unfold keepT
  cases hg : getT D k with
  | none =>
    show ((D ++ [(k, l)]).map (·.1)).Nodup
    rw [List.map_append, List.nodup_append]
    refine ⟨h, by simp, fun a ha b hb => ?_⟩
    obtain ⟨e, he, rfl⟩ := List.mem_map.mp ha
    simp at hb
    subst hb
    exact getT_none hg e he
  | some e =>
    show Kn (if l.length < e.2.length then putT D k l else D)
    by_cases hl : l.length < e.2.length
    · rw [if_pos hl]
      unfold Kn
      rw [putT_keys]
      exact h
    · rw [if_neg hl]; exact h
theorem keep_mem {D : Dc} {k : Ky} {l : List Nat} {x : Ky × List Nat} (hx : x ∈ keepT D k l) : x ∈ D ∨ x = (k, l) := by
  unfold keepT at hx
  cases hg : getT D k with
  | none =>
    rw [hg] at hx
    rcases List.mem_append.mp hx with h | h
    · exact .inl h
    · exact .inr (by simpa using h)
  | some e =>
    rw [hg] at hx
    replace hx : x ∈ (if l.length < e.2.length then putT D k l else D) := hx
    by_cases hl : l.length < e.2.length
    · rw [if_pos hl] at hx
      obtain ⟨y, hy, rfl⟩ := List.mem_map.mp hx
      by_cases hk : y.1 = k
      · rw [if_pos hk, hk]; exact .inr rfl
      · rw [if_neg hk]; exact .inl hy
    · rw [if_neg hl] at hx; exact .inl hx
theorem keep_has (D : Dc) (k : Ky) (l : List Nat) : ∃ l', (k, l') ∈ keepT D k l ∧ l'.length ≤ l.length := by
  unfold keepT
  cases hg : getT D k with
  | none => exact ⟨l, by simp, Nat.le_refl _⟩
  | some e =>
    obtain ⟨h1, h2⟩ := getT_some hg
    show ∃ l', (k, l') ∈ (if l.length < e.2.length then putT D k l else D) ∧ l'.length ≤ l.length
    by_cases hl : l.length < e.2.length
    · rw [if_pos hl]
      exact ⟨l, List.mem_map.mpr ⟨e, h1, by rw [if_pos h2, h2]⟩, Nat.le_refl _⟩
    · rw [if_neg hl]
      exact ⟨e.2, by rw [← h2]; exact h1, by omega⟩
theorem keep_old {D : Dc} (h : Kn D) {k k' : Ky} {l l0 : List Nat} (h0 : (k', l0) ∈ D) : ∃ l', (k', l') ∈ keepT D k l ∧ l'.length ≤ l0.length := by
  unfold keepT
  cases hg : getT D k with
  | none => exact ⟨l0, List.mem_append_left _ h0, Nat.le_refl _⟩
  | some e =>
    obtain ⟨h1, h2⟩ := getT_some hg
    show ∃ l', (k', l') ∈ (if l.length < e.2.length then putT D k l else D) ∧ l'.length ≤ l0.length
    by_cases hl : l.length < e.2.length
    · rw [if_pos hl]
      by_cases hk : k' = k
      · have := h.eq h1 h0 (by rw [h2, hk])
        subst this
        exact ⟨l, List.mem_map.mpr ⟨_, h0, by rw [if_pos hk]⟩, Nat.le_of_lt hl⟩
      · exact ⟨l0, List.mem_map.mpr ⟨_, h0, by rw [if_neg hk]⟩, Nat.le_refl _⟩
    · rw [if_neg hl]; exact ⟨l0, h0, Nat.le_refl _⟩
theorem keep_len (D : Dc) (k : Ky) (l : List Nat) : (keepT D k l).length ≤ D.length + 1 := by
  unfold keepT
  cases hg : getT D k with
  | none => simp
  | some e =>
    show (if l.length < e.2.length then putT D k l else D).length ≤ _
    by_cases hl : l.length < e.2.length
    · rw [if_pos hl]
      unfold putT
      rw [List.length_map]; omega
    · rw [if_neg hl]; omega
/-- keep, for each of a list -/
def keeps : Dc → Dc → Dc
  | D, [] => D
  | D, o :: r => keeps (keepT D o.1 o.2) r
theorem keeps_app : ∀ (a b D : Dc), keeps D (a ++ b) = keeps (keeps D a) b
  | [], _, _ => rfl
  | o :: a, b, D => by rw [List.cons_append, keeps, keeps, keeps_app a b]
theorem keeps_kn : ∀ (os : Dc) {D : Dc}, Kn D → Kn (keeps D os)
  | [], _, h => h
  | o :: r, D, h => keeps_kn r (keep_kn h o.1 o.2)
theorem keeps_mem : ∀ (os : Dc) {D : Dc} {x : Ky × List Nat}, x ∈ keeps D os → x ∈ D ∨ x ∈ os
  | [], _, _, h => .inl h
  | o :: r, D, x, h => by
    rcases keeps_mem r h with h | h
    · rcases keep_mem h with h | h
      · exact .inl h
      · exact .inr (by rw [h]; exact List.mem_cons_self)
    · exact .inr (List.mem_cons_of_mem _ h)
theorem keeps_has : ∀ (os : Dc) {D : Dc}, Kn D → ∀ x, x ∈ D ∨ x ∈ os → ∃ l', (x.1, l') ∈ keeps D os ∧ l'.length ≤ x.2.length
  | [], _, _, x, h => by
    rcases h with h | h
    · exact ⟨x.2, h, Nat.le_refl _⟩
    · cases h
  | o :: r, D, hk, x, h => by
    have h1 : ∃ l1, (x.1, l1) ∈ keepT D o.1 o.2 ∧ l1.length ≤ x.2.length ∨ x ∈ r := by
      rcases h with h | h
      · obtain ⟨l1, a, b⟩ := keep_old hk (k := o.1) (l := o.2) (k' := x.1) (l0 := x.2) h
        exact ⟨l1, .inl ⟨a, b⟩⟩
      · rcases List.mem_cons.mp h with rfl | h
        · obtain ⟨l1, a, b⟩ := keep_has D x.1 x.2
          exact ⟨l1, .inl ⟨a, b⟩⟩
        · exact ⟨[], .inr h⟩
    obtain ⟨l1, h1 | h1⟩ := h1
    · obtain ⟨l', a, b⟩ := keeps_has r (keep_kn hk o.1 o.2) (x.1, l1) (.inl h1.1)
      exact ⟨l', a, Nat.le_trans b h1.2⟩
    · exact keeps_has r (keep_kn hk o.1 o.2) x (.inr h1)
theorem keeps_len : ∀ (os D : Dc), (keeps D os).length ≤ D.length + os.length
  | [], D => Nat.le_refl _
  | o :: r, D => by
    have h1 := keeps_len r (keepT D o.1 o.2)
    have h2 := keep_len D o.1 o.2
    rw [keeps, List.length_cons]; omega
/-- what one entry becomes behind a line -/
def opsOf (many i : Nat) (x : Ln) (e : Ky × List Nat) : Dc := ((x.did e.1.1, 0), e.2) :: if e.1.2 < many then [((e.1.1, e.1.2 + 1), e.2 ++ [i])] else []
def stepD (many i : Nat) (x : Ln) (D : Dc) : Dc := keeps [] (D.flatMap (opsOf many i x))
/-- what all_moments keeps of one moment -/
structure DI (c m : Nat) (p : List Ln) (i : Nat) (D : Dc) : Prop where
  kn : Kn D
  len : D.length ≤ 2 ^ i
  mem : ∀ e ∈ D, (e.2, e.1.2) ∈ EJ m i ∧ e.1.1 = runs (h0 c) (kp e.2 0 (p.take i))
  has : ∀ q ∈ EJ m i, ∃ l', ((runs (h0 c) (kp q.1 0 (p.take i)), q.2), l') ∈ D ∧ l'.length ≤ q.1.length
theorem kp_ext {l l' : List Nat} : ∀ (p : List Ln) (k : Nat), (∀ j, j < k + p.length → (j ∈ l ↔ j ∈ l')) → kp l k p = kp l' k p
  | [], _, _ => rfl
  | x :: p, k, h => by
    have ih := kp_ext p (k + 1) fun j hj => h j (by rw [List.length_cons]; omega)
    have hk := h k (by rw [List.length_cons]; omega)
    unfold kp
    by_cases hl : k ∈ l
    · rw [if_pos hl, if_pos (hk.mp hl)]; exact ih
    · rw [if_neg hl, if_neg fun z => hl (hk.mpr z), ih]
theorem DI_start (c m : Nat) (p : List Ln) : DI c m p 0 [((h0 c, 0), [])] := ⟨by simp [Kn], by simp, fun e he => by
  simp at he
  subst he
  exact ⟨by simp [EJ], by simp [kp, runs]⟩, fun q hq => by
  simp [EJ] at hq
  subst hq
  exact ⟨[], by simp [kp, runs], Nat.le_refl _⟩⟩
theorem ops_len (m i : Nat) (x : Ln) : ∀ D : Dc, (D.flatMap (opsOf m i x)).length ≤ 2 * D.length
  | [] => by simp
  | e :: D => by
    have ih := ops_len m i x D
    rw [List.flatMap_cons, List.length_append, List.length_cons]
    have : (opsOf m i x e).length ≤ 2 := by
      unfold opsOf
      by_cases h : e.1.2 < m
      · rw [if_pos h]; simp
      · rw [if_neg h]; simp
    omega
theorem run_hit {c i : Nat} {p : List Ln} (hi : i < p.length) {l : List Nat} (hl : ∀ k ∈ l, k < i) : runs (h0 c) (kp l 0 (p.take (i + 1))) = (p[i]).did (runs (h0 c) (kp l 0 (p.take i))) := by
  have e : p.take (i + 1) = p.take i ++ [p[i]] := by simp
  have hlen : (p.take i).length = i := by rw [List.length_take]; omega
  rw [e, kp_app, runs_app, hlen]
  have hn : ¬ (0 + i ∈ l) := fun z => by have := hl _ z; omega
  have : kp l (0 + i) [p[i]] = [p[i]] := by
    show (if 0 + i ∈ l then kp l (0 + i + 1) [] else p[i] :: kp l (0 + i + 1) []) = _
    rw [if_neg hn]; rfl
  rw [this]; rfl
theorem run_miss {c i : Nat} {p : List Ln} (hi : i < p.length) {l : List Nat} : runs (h0 c) (kp (l ++ [i]) 0 (p.take (i + 1))) = runs (h0 c) (kp l 0 (p.take i)) := by
  have e : p.take (i + 1) = p.take i ++ [p[i]] := by simp
  have hlen : (p.take i).length = i := by rw [List.length_take]; omega
  rw [e, kp_app, runs_app, hlen]
  have hn : 0 + i ∈ l ++ [i] := by simp
  have h1 : kp (l ++ [i]) (0 + i) [p[i]] = [] := by
    show (if 0 + i ∈ l ++ [i] then kp (l ++ [i]) (0 + i + 1) [] else p[i] :: kp (l ++ [i]) (0 + i + 1) []) = _
    rw [if_pos hn]; rfl
  have h2 : kp (l ++ [i]) 0 (p.take i) = kp l 0 (p.take i) := kp_ext _ _ fun j hj => by
    have : j ≠ i := by omega
    simp [this]
  rw [h1, h2]; rfl
theorem DI_step {c m : Nat} (hm : m = 1 ∨ m = 2) {p : List Ln} {i : Nat} {D : Dc} (h : DI c m p i D) (hi : i < p.length) (hp : p.length ≤ 8) : DI c m p (i + 1) (stepD m i p[i] D) := by
  have lt : ∀ {l t}, (l, t) ∈ EJ m i → ∀ k ∈ l, k < i := fun {l t} hq => (EL_lt hm (by omega) (EJ_EL hm (by omega) hq)).1
  refine ⟨keeps_kn _ (by simp [Kn]), ?_, fun e he => ?_, fun q hq => ?_⟩
  · have h1 := keeps_len (D.flatMap (opsOf m i p[i])) []
    have h2 := ops_len m i p[i] D
    have h3 := h.len
    have h4 : 2 ^ (i + 1) = 2 * 2 ^ i := by rw [Nat.pow_succ]; omega
    unfold stepD
    simp only [List.length_nil, Nat.zero_add] at h1
    omega
  · rcases keeps_mem _ he with h1 | h1
    · cases h1
    · obtain ⟨y, hy, hz⟩ := List.mem_flatMap.mp h1
      obtain ⟨a, b⟩ := h.mem y hy
      unfold opsOf at hz
      rcases List.mem_cons.mp hz with rfl | hz
      · refine ⟨?_, ?_⟩
        · unfold EJ
          exact List.mem_append_left _ (List.mem_map.mpr ⟨_, a, rfl⟩)
        · rw [run_hit hi (lt a), ← b]
      · by_cases hc : y.1.2 < m
        · rw [if_pos hc] at hz
          rw [List.mem_singleton.mp hz]
          refine ⟨?_, ?_⟩
          · unfold EJ
            exact List.mem_append_right _ (List.mem_map.mpr ⟨_, List.mem_filter.mpr ⟨a, decide_eq_true hc⟩, rfl⟩)
          · show y.1.1 = runs (h0 c) (kp (y.2 ++ [i]) 0 (p.take (i + 1)))
            rw [run_miss hi, ← b]
        · rw [if_neg hc] at hz; cases hz
  · unfold EJ at hq
    rcases List.mem_append.mp hq with hq | hq
    · obtain ⟨e, he, rfl⟩ := List.mem_map.mp hq
      obtain ⟨l', h1, h2⟩ := h.has e he
      have hin : ((p[i].did (runs (h0 c) (kp e.1 0 (p.take i))), 0), l') ∈ D.flatMap (opsOf m i p[i]) := List.mem_flatMap.mpr ⟨_, h1, List.mem_cons_self⟩
      obtain ⟨l2, a, b⟩ := keeps_has (D.flatMap (opsOf m i p[i])) (D := []) (by simp [Kn]) _ (.inr hin)
      exact ⟨l2, by rw [run_hit hi (lt he)]; exact a, Nat.le_trans b h2⟩
    · obtain ⟨e, he, rfl⟩ := List.mem_map.mp hq
      obtain ⟨he, hc⟩ := List.mem_filter.mp he
      obtain ⟨l', h1, h2⟩ := h.has e he
      have hc : e.2 < m := of_decide_eq_true hc
      have hin : ((runs (h0 c) (kp e.1 0 (p.take i)), e.2 + 1), l' ++ [i]) ∈ D.flatMap (opsOf m i p[i]) := List.mem_flatMap.mpr ⟨_, h1, by
        unfold opsOf
        refine List.mem_cons_of_mem _ ?_
        rw [if_pos (show ((runs (h0 c) (kp e.1 0 (p.take i)), e.2), l').1.2 < m from hc)]
        exact List.mem_singleton.mpr rfl⟩
      obtain ⟨l2, a, b⟩ := keeps_has (D.flatMap (opsOf m i p[i])) (D := []) (by simp [Kn]) _ (.inr hin)
      refine ⟨l2, by rw [run_miss hi]; exact a, Nat.le_trans b ?_⟩
      simp only [List.length_append, List.length_cons, List.length_nil]
      omega
end LL
set_option Elab.async false
set_option linter.all false
set_option maxRecDepth 100000
set_option maxHeartbeats 4000000
set_option autoImplicit false
/-! The plain law: all_moments. -/
namespace LL
open PySem PySem.Spec PyProof.Rows L2
section
variable {ρ ρ1 ρ2 : DEnv} {M M1 M2 : MM} {x y : XM} {r : Option OutM} {d : PyData} {ds : List PyData} {vs : List Nat} {G : PyData → DEnv → Option DEnv}
theorem xtN (h : x ρ M = some (.nx ρ1 M1)) (h2 : y ρ1 M1 = r) : xThen x y ρ M = r := by unfold xThen; rw [h]; exact h2
theorem xfE {I : DEnv → Option (List PyData)} (h : I (viewM ρ M) = some ds) (h2 : xForD x vs G ds ρ M = r) : xFor I vs G x ρ M = r := by unfold xFor; rw [h]; exact h2
theorem xfC (hn : noSlot M vs = true) (hG : G d ρ = some ρ1) (h : x ρ1 M = some (.nx ρ2 M2)) (h2 : xForD x vs G ds ρ2 M2 = r) : xForD x vs G (d :: ds) ρ M = r := by
  unfold xForD
  rw [if_pos hn, hG, Option.bind_some, h]
  exact h2
theorem xiY {C : DEnv → Option Bool} (h : C (viewM ρ M) = some true) (h2 : x ρ M = r) : xIf C x y ρ M = r := by unfold xIf; rw [h]; exact h2
theorem xiN {C : DEnv → Option Bool} (h : C (viewM ρ M) = some false) (h2 : y ρ M = r) : xIf C x y ρ M = r := by unfold xIf; rw [h]; exact h2
theorem xnD {i : Nat} (h : i < ρ.length) : xNewD i ρ M = some (.nx (ρ.set i none) ((i, .own (.dict [])) :: mdrop M i)) := if_pos h
theorem xn1 {i : Nat} {E : DEnv → Option PyData} (h : E (viewM ρ M) = some (.list ds)) (hi : i < ρ.length) : xNew1 i E ρ M = some (.nx (ρ.set i none) ((i, .own (.list ds)) :: mdrop M i)) := by
  unfold xNew1
  rw [h]
  exact if_pos hi
theorem xkE {i : Nat} {Ep El : DEnv → Option PyData} {kvs kvs' : KVs} {pair losses : PyData} (hg : getD M i = some kvs) (hp : Ep (viewM ρ M) = some pair) (hl : El (viewM ρ M) = some losses) (hn : notL losses = true) (hk : keepD kvs pair losses = some kvs') :
    xKeep i Ep El ρ M = some (.nx ρ (setM M i (.dict kvs'))) := by
  unfold xKeep
  rw [hg, Option.bind_some, hp, Option.bind_some, hl, Option.bind_some, if_pos hn, hk]; rfl
theorem xlN {i : Nat} {n : Int} {kvs : KVs} (hg : getD M i = some kvs) (hn : ¬ n < (kvs.length : Int)) (h2 : y ρ M = r) : xIfLen i n x y ρ M = r := by
  unfold xIfLen
  rw [hg, Option.bind_some, if_neg hn]
  exact h2
theorem xaD {i j : Nat} {kvs : KVs} (hi : getL M i = some ds) (hj : getD M j = some kvs) (hn : i ≠ j ∧ ds.length < sizeLine) : xAppD i j ρ M = some (.nx ρ (setM (mdrop M j) i (.list (ds ++ [.dict kvs])))) := by
  unfold xAppD
  rw [hi, Option.bind_some, hj, Option.bind_some, if_pos hn]
theorem xrL {i : Nat} (hi : getL M i = some ds) : xRetL i ρ M = some (.rt (.list ds) (mdrop M i)) := by
  unfold xRetL
  rw [hi]; rfl
theorem fx_rt {n N : Nat} {as : List PyData} (hl : as.length = n) (h : x (as.map some ++ List.replicate (N - as.length) none) [] = some (.rt d M)) : fnX n N x as = some d := by
  unfold fnX
  rw [if_pos hl, h]
end
abbrev pairD (e : Ky × List Nat) : PyData := .tuple [kD e.1, lD e.2]
theorem items_D (D : Dc) : iItD (.dict (dD D)) = some (D.map pairD) := by
  have h : ((dD D).all fun p => isKd p.1) = true := by
    rw [List.all_eq_true]
    intro p hp
    obtain ⟨e, _, rfl⟩ := List.mem_map.mp hp
    exact kD_kd e.1
  show (if ((dD D).all fun p => isKd p.1) = true then _ else _) = _
  rw [if_pos h]
  unfold dD
  rw [List.map_map]; rfl
theorem keys_D (D : Dc) : iKyD (.dict (dD D)) = some (D.map fun e => kD e.1) := by
  have h : ((dD D).all fun p => isKd p.1) = true := by
    rw [List.all_eq_true]
    intro p hp
    obtain ⟨e, _, rfl⟩ := List.mem_map.mp hp
    exact kD_kd e.1
  show (if ((dD D).all fun p => isKd p.1) = true then _ else _) = _
  rw [if_pos h]
  unfold dD
  rw [List.map_map]; rfl
theorem lD_snoc {l : List Nat} (hl : l.length ≤ 100) (i : Nat) : addD (lD l) (.tuple [.int (i : Int)]) = some (lD (l ++ [i])) := by
  show addD (.tuple _) (.tuple _) = _
  rw [add_tt _ _ (by simp; omega)]
  simp [lD, iD]
section
variable {c m : Nat} {fs : List Nat}
theorem items_for {md pd : PyData} {i : Nat} {x : Ln} {ds : List PyData} : ∀ (D acc : Dc) (v7 v8 v9 : Option PyData), (∀ e ∈ D, x.in e.1.1.length ∧ e.1.1.length ≤ 3 ∧ hdep (x.did e.1.1) ≤ 7 ∧ hdep e.1.1 ≤ 7 ∧ e.2.length ≤ 8) → acc.length + 2 * D.length < 16777216 → ∃ v7' v8' v9',
    xForD (xThen (xKeep 6 (oL mkT (oCons (oL (fun as => F_done (as ++ [])) (oCons (oV 7) (oCons (oV 5) oNil))) (oCons (oC (.int 0)) oNil))) (oV 9))
      (xIf (o2 ltD (oV 8) (oV 2)) (xKeep 6 (oL mkT (oCons (oV 7) (oCons (o2 addD (oV 8) (oC (.int 1))) oNil))) (o2 addD (oV 9) (oL mkT (oCons (oV 4) oNil)))) xNx)) [7, 8, 9] (gTupD 2 (gConsD (gTupD 2 (gConsD (gN 7) (gConsD (gN 8) gNilD))) (gConsD (gN 9) gNilD)))
      (D.map pairD) [some md, some pd, some (.int (m : Int)), none, some (.int (i : Int)), some x.toD, none, v7, v8, v9] [(6, .own (.dict (dD acc))), (3, .own (.list ds))] =
      some (.nx [some md, some pd, some (.int (m : Int)), none, some (.int (i : Int)), some x.toD, none, v7', v8', v9'] [(6, .own (.dict (dD (keeps acc (D.flatMap (opsOf m i x)))))), (3, .own (.list ds))])
  | [], acc, v7, v8, v9, _, _ => ⟨v7, v8, v9, rfl⟩
  | e :: D, acc, v7, v8, v9, H, hl => by
    obtain ⟨h1, h2, h3, h4, h5⟩ := H e List.mem_cons_self
    rw [List.length_cons] at hl
    have ed : F_done ([hD e.1.1, x.toD] ++ []) = some (hD (x.did e.1.1)) := F_done_ok e.1.1 x h1 (by omega) (by
      have := le_hdep (mk_in_did h1)
      omega)
    have k1 : keepD (dD acc) (.tuple [hD (x.did e.1.1), .int 0]) (lD e.2) = some (dD (keepT acc (x.did e.1.1, 0) e.2)) := keepD_T (k := (x.did e.1.1, 0)) h3 (by omega)
    have l1 := keep_len acc (x.did e.1.1, 0) e.2
    by_cases hc : e.1.2 < m
    · have eo : opsOf m i x e = [((x.did e.1.1, 0), e.2), ((e.1.1, e.1.2 + 1), e.2 ++ [i])] := by unfold opsOf; rw [if_pos hc]
      have l2 := keep_len (keepT acc (x.did e.1.1, 0) e.2) (e.1.1, e.1.2 + 1) (e.2 ++ [i])
      obtain ⟨u7, u8, u9, ih⟩ := items_for (md := md) (pd := pd) (i := i) (x := x) (ds := ds) D (keepT (keepT acc (x.did e.1.1, 0) e.2) (e.1.1, e.1.2 + 1) (e.2 ++ [i])) (some (hD e.1.1)) (some (iD e.1.2)) (some (lD e.2)) (fun y hy => H y (List.mem_cons_of_mem _ hy)) (by omega)
      refine ⟨u7, u8, u9, ?_⟩
      rw [List.map_cons, List.flatMap_cons, keeps_app, eo]
      have k2 : keepD (dD (keepT acc (x.did e.1.1, 0) e.2)) (.tuple [hD e.1.1, .int ((e.1.2 : Int) + 1)]) (lD (e.2 ++ [i])) = some (dD (keepT (keepT acc (x.did e.1.1, 0) e.2) (e.1.1, e.1.2 + 1) (e.2 ++ [i]))) := keepD_T (k := (e.1.1, e.1.2 + 1)) h4 (by omega)
      refine xfC rfl rfl (xtN (xkE rfl (eL (eC (eL rfl ed) rfl) (ap_mkT2 _ _ rfl rfl)) rfl rfl k1) (xiY (e2 rfl rfl ?_) (xkE rfl (eL (eC rfl (eC (e2 rfl rfl rfl) rfl)) (ap_mkT2 _ _ rfl rfl)) (e2 rfl (eL rfl (ap_mkT1 _ rfl)) (lD_snoc (by omega) i)) rfl k2))) ih
      show some (decide ((e.1.2 : Int) < (m : Int))) = some true
      simp [hc]
    · have eo : opsOf m i x e = [((x.did e.1.1, 0), e.2)] := by unfold opsOf; rw [if_neg hc]
      obtain ⟨u7, u8, u9, ih⟩ := items_for (md := md) (pd := pd) (i := i) (x := x) (ds := ds) D (keepT acc (x.did e.1.1, 0) e.2) (some (hD e.1.1)) (some (iD e.1.2)) (some (lD e.2)) (fun y hy => H y (List.mem_cons_of_mem _ hy)) (by omega)
      refine ⟨u7, u8, u9, ?_⟩
      rw [List.map_cons, List.flatMap_cons, keeps_app, eo]
      refine xfC rfl rfl (xtN (xkE rfl (eL (eC (eL rfl ed) rfl) (ap_mkT2 _ _ rfl rfl)) rfl rfl k1) (xiN (e2 rfl rfl ?_) rfl)) ih
      show some (decide ((e.1.2 : Int) < (m : Int))) = some false
      simp [hc]
/-- the dicts of the moments -/
def dps (m : Nat) : Nat → Dc → List Ln → List Dc
  | _, D, [] => [D]
  | i, D, x :: r => D :: dps m (i + 1) (stepD m i x D) r
abbrev dctD (D : Dc) : PyData := .dict (dD D)
theorem DI_bound {p : List Ln} (g : Gm c fs) (hp : Pg c fs p) (hm : m = 1 ∨ m = 2) {i : Nat} (hi : i ≤ p.length) {D : Dc} (h : DI c m p i D) : ∀ e ∈ D, e.1.1.length = c ∧ hdep e.1.1 ≤ 7 ∧ e.2.length ≤ 8 ∧ (∀ k ∈ e.2, k < i) := fun e he => by
  obtain ⟨a, b⟩ := h.mem e he
  have h8 := hp.len
  obtain ⟨q1, q2⟩ := EL_lt hm (n := i) (by omega) (EJ_EL hm (by omega) a)
  refine ⟨by rw [b, runs_len, h0_len], by rw [b]; exact lossy g hp i e.2, Nat.le_trans q2 (by omega), q1⟩
theorem pow_8 {i : Nat} (h : i ≤ 8) : 2 ^ i ≤ 256 := Nat.le_trans (Nat.pow_le_pow_right (by omega) h) (by decide)
theorem moments_for {p : List Ln} (g : Gm c fs) (hp : Pg c fs p) (hm : m = 1 ∨ m = 2) {md pd : PyData} : ∀ (r : List Ln) (k : Nat) (D : Dc) (L : List PyData) (v4 v5 v7 v8 v9 : Option PyData), p.drop k = r → k ≤ p.length → L.length ≤ k → DI c m p k D → ∃ v4' v5' v7' v8' v9',
    xForD (xThen (xNewD 6)
      (xThen (xFor (o1 iItD (o2 ixD (oV 3) (o1 negD (oC (.int 1))))) [7, 8, 9] (gTupD 2 (gConsD (gTupD 2 (gConsD (gN 7) (gConsD (gN 8) gNilD))) (gConsD (gN 9) gNilD))) (xThen (xKeep 6 (oL mkT (oCons (oL (fun as => F_done (as ++ [])) (oCons (oV 7) (oCons (oV 5) oNil))) (oCons (oC (.int 0)) oNil))) (oV 9))
      (xIf (o2 ltD (oV 8) (oV 2)) (xKeep 6 (oL mkT (oCons (oV 7) (oCons (o2 addD (oV 8) (oC (.int 1))) oNil))) (o2 addD (oV 9) (oL mkT (oCons (oV 4) oNil)))) xNx)))
      (xThen (xIfLen 6 3000 xNo xNx)
      (xAppD 3 6)))) [4, 5] (gTupD 2 (gConsD (gN 4) (gConsD (gN 5) gNilD))) (enumD k (r.map Ln.toD)) [some md, some pd, some (.int (m : Int)), none, v4, v5, none, v7, v8, v9] [(3, .own (.list (L ++ [dctD D])))] =
      some (.nx [some md, some pd, some (.int (m : Int)), none, v4', v5', none, v7', v8', v9'] [(3, .own (.list (L ++ (dps m k D r).map dctD)))])
  | [], k, D, L, v4, v5, v7, v8, v9, _, _, _, _ => ⟨v4, v5, v7, v8, v9, rfl⟩
  | x :: r, k, D, L, v4, v5, v7, v8, v9, hd, hk, hL, hI => by
    have h8 := hp.len
    have hk' : k < p.length := by
      have : (p.drop k).length = (x :: r).length := by rw [hd]
      rw [List.length_drop, List.length_cons] at this
      omega
    have hx : p[k] = x := by
      have h1 := List.drop_eq_getElem_cons hk'
      rw [hd] at h1
      exact (List.cons.inj h1).1.symm
    have hr : p.drop (k + 1) = r := by
      have h1 := List.drop_eq_getElem_cons hk'
      rw [hd] at h1
      exact (List.cons.inj h1).2.symm
    have B := DI_bound g hp hm hk hI
    have hlen := hI.len
    have hpow := pow_8 (show k ≤ 8 by omega)
    have hin : x.in c := hp.in g x (by rw [← hx]; exact List.getElem_mem hk')
    obtain ⟨u7, u8, u9, e1'⟩ := items_for (m := m) (md := md) (pd := pd) (i := k) (x := x) (ds := L ++ [dctD D]) D [] v7 v8 v9 (fun e he => by
      obtain ⟨b1, b2, b3, b4⟩ := B e he
      have hc := g.c3
      refine ⟨by rw [b1]; exact hin, by omega, ?_, b2, b3⟩
      rw [(hI.mem e he).2, ← hx, ← run_hit hk' b4]
      exact lossy g hp (k + 1) e.2) (by simp; omega)
    have hS := DI_step hm hI hk' h8
    rw [hx] at hS
    obtain ⟨w4, w5, w7, w8, w9, ih⟩ := moments_for g hp hm (md := md) (pd := pd) r (k + 1) (stepD m k x D) (L ++ [dctD D]) (some (.int k)) (some x.toD) u7 u8 u9 hr hk' (by simp; omega) hS
    refine ⟨w4, w5, w7, w8, w9, ?_⟩
    rw [List.map_cons, enumD]
    have hl2 : ((dD (stepD m k x D)).length : Int) ≤ 3000 := by
      have h1 := hS.len
      have h2 := pow_8 (show k + 1 ≤ 8 by omega)
      have h3 : (dD (stepD m k x D)).length = (stepD m k x D).length := List.length_map _
      omega
    refine xfC rfl rfl (xtN (xnD (by simp)) (xtN (xfE (e1 (e2 rfl rfl (atI_last L (dctD D))) (items_D D)) e1') (xtN (xlN rfl (by show ¬ (3000 < ((dD (stepD m k x D)).length : Int)); omega) rfl) (xaD rfl rfl ⟨by decide, by rw [sizeLine_eq]; simp; omega⟩)))) ?_
    have e5 : dps m k D (x :: r) = D :: dps m (k + 1) (stepD m k x D) r := rfl
    rw [e5, List.map_cons]
    have e6 : L ++ dctD D :: (dps m (k + 1) (stepD m k x D) r).map dctD = L ++ [dctD D] ++ (dps m (k + 1) (stepD m k x D) r).map dctD := by simp
    rw [e6]
    exact ih
theorem dps_at {p : List Ln} (hm : m = 1 ∨ m = 2) (hp : p.length ≤ 8) : ∀ (r : List Ln) (k : Nat) (D : Dc), p.drop k = r → k ≤ p.length → DI c m p k D → (dps m k D r).length = r.length + 1 ∧ ∀ j, j ≤ r.length → ∃ D', (dps m k D r)[j]? = some D' ∧ DI c m p (k + j) D'
  | [], k, D, _, _, hI => ⟨rfl, fun j hj => by
    have : j = 0 := by simpa using hj
    subst this
    exact ⟨D, rfl, hI⟩⟩
  | x :: r, k, D, hd, hk, hI => by
    have hk' : k < p.length := by
      have : (p.drop k).length = (x :: r).length := by rw [hd]
      rw [List.length_drop, List.length_cons] at this
      omega
    have h1 := List.drop_eq_getElem_cons hk'
    rw [hd] at h1
    obtain ⟨hx, hr⟩ := List.cons.inj h1
    have hS := DI_step hm hI hk' hp
    rw [← hx] at hS
    obtain ⟨a, b⟩ := dps_at hm hp r (k + 1) (stepD m k x D) hr.symm hk' hS
    refine ⟨by show (D :: dps m (k + 1) (stepD m k x D) r).length = _; rw [List.length_cons, a, List.length_cons], fun j hj => ?_⟩
    cases j with
    | zero => exact ⟨D, rfl, hI⟩
    | succ j =>
      obtain ⟨D', h2, h3⟩ := b j (by simpa using hj)
      exact ⟨D', h2, by rw [show k + (j + 1) = k + 1 + j by omega]; exact h3⟩
abbrev D0 (c : Nat) : Dc := [((h0 c, 0), [])]
theorem F_all_moments_ok {p : List Ln} (g : Gm c fs) (hp : Pg c fs p) (hm : m = 1 ∨ m = 2) : F_all_moments [mD c fs, pD p, .int (m : Int)] = some (.list ((dps m 0 (D0 c) p).map dctD)) := by
  obtain ⟨v4, v5, v7, v8, v9, e⟩ := moments_for g hp hm (md := mD c fs) (pd := pD p) p 0 (D0 c) [] none none none none none rfl (Nat.zero_le _) (Nat.zero_le _) (DI_start c m p)
  have hk : isKd (.tuple [hD (h0 c), .int 0]) = true := kD_kd (h0 c, 0)
  have hn : (nk (.tuple [hD (h0 c), .int 0])).depth ≤ 8 := kD_nk (k := (h0 c, 0)) (Nat.le_trans (h0_dep c) (by omega))
  have ed : d1D (.tuple [hD (h0 c), .int 0]) (.tuple []) = some (dctD (D0 c)) := by
    unfold d1D
    rw [if_pos ⟨hk, hn, rfl⟩]
    rfl
  refine fx_rt rfl (xtN (xn1 (eL (eC (e2 (eL (eC (eL rfl (F_first_terms_ok g)) rfl) (ap_mkT2 _ _ rfl rfl)) (eL rfl ap_mkT0) ed) rfl) (ap_mkL1 _ rfl)) (by simp)) (xtN (xfE rfl e) (xrL rfl)))
end
end LL
set_option Elab.async false
set_option linter.all false
set_option maxRecDepth 100000
set_option maxHeartbeats 4000000
set_option autoImplicit false
/-! The plain law: sure_of, sure_terms, least_harm. -/
namespace LL
open PySem PySem.Spec PyProof.Rows L2
/-! ### one term for all -/
def insT (K : List T) (t : T) : List T := if t ∈ K then K else K ++ [t]
def insA : List T → List T → List T
  | K, [] => K
  | K, t :: r => insA (insT K t) r
theorem insT_mem {K : List T} {t x : T} : x ∈ insT K t ↔ x ∈ K ∨ x = t := by
  unfold insT
  by_cases h : t ∈ K
  · rw [if_pos h]
    exact ⟨.inl, fun z => z.elim id fun e => by rw [e]; exact h⟩
  · rw [if_neg h, List.mem_append, List.mem_singleton]
theorem insT_nd {K : List T} (h : K.Nodup) (t : T) : (insT K t).Nodup := by
  unfold insT
  by_cases ht : t ∈ K
  · rw [if_pos ht]; exact h
  · rw [if_neg ht, List.nodup_append]
    refine ⟨h, by simp, fun a ha b hb => ?_⟩
    rw [List.mem_singleton.mp hb]
    intro z
    rw [z] at ha
    exact ht ha
theorem insA_mem : ∀ (ts K : List T) {x : T}, x ∈ insA K ts ↔ x ∈ K ∨ x ∈ ts
  | [], K, x => by simp [insA]
  | t :: r, K, x => by
    rw [insA, insA_mem r (insT K t), insT_mem, List.mem_cons]
    exact or_assoc
theorem insA_nd : ∀ (ts : List T) {K : List T}, K.Nodup → (insA K ts).Nodup
  | [], _, h => h
  | t :: r, K, h => insA_nd r (insT_nd h t)
theorem insA_len : ∀ (ts K : List T), (insA K ts).length ≤ K.length + ts.length
  | [], K => Nat.le_refl _
  | t :: r, K => by
    have h1 := insA_len r (insT K t)
    have h2 : (insT K t).length ≤ K.length + 1 := by
      unfold insT
      by_cases h : t ∈ K
      · rw [if_pos h]; omega
      · rw [if_neg h]; simp
    rw [insA, List.length_cons]; omega
/-- the one term that all are -/
def oneT : List T → Option T
  | [] => none
  | t :: r => if ∀ x ∈ r, x = t then some t else none
theorem oneT_cons (t : T) (r : List T) : oneT (t :: r) = if ∀ x ∈ r, x = t then some t else none := rfl
theorem oneT_iff {ts : List T} {t : T} : oneT ts = some t ↔ ts ≠ [] ∧ ∀ x ∈ ts, x = t := by
  cases ts with
  | nil => simp [oneT]
  | cons a r =>
    rw [oneT_cons]
    by_cases h : ∀ x ∈ r, x = a
    · rw [if_pos h]
      refine ⟨fun e => ?_, fun e => ?_⟩
      · cases e
        refine ⟨by simp, fun x hx => ?_⟩
        rcases List.mem_cons.mp hx with rfl | hx
        · rfl
        · exact h x hx
      · rw [e.2 a List.mem_cons_self]
    · rw [if_neg h]
      refine ⟨fun e => (by cases e), fun e => absurd (fun x hx => ?_) h⟩
      rw [e.2 x (List.mem_cons_of_mem _ hx), e.2 a List.mem_cons_self]
theorem oneT_set {as bs : List T} (h : ∀ x, x ∈ as ↔ x ∈ bs) : oneT as = oneT bs := by
  have e : ∀ t, oneT as = some t ↔ oneT bs = some t := fun t => by
    rw [oneT_iff, oneT_iff]
    have hn : as ≠ [] ↔ bs ≠ [] := by
      cases as with
      | nil =>
        cases bs with
        | nil => exact Iff.rfl
        | cons b r => exact absurd ((h b).mpr List.mem_cons_self) (by simp)
      | cons a r =>
        cases bs with
        | nil => exact absurd ((h a).mp List.mem_cons_self) (by simp)
        | cons b r' => simp
    exact ⟨fun z => ⟨hn.mp z.1, fun x hx => z.2 x ((h x).mpr hx)⟩, fun z => ⟨hn.mpr z.1, fun x hx => z.2 x ((h x).mp hx)⟩⟩
  cases ha : oneT as with
  | some t => exact ((e t).mp ha).symm
  | none =>
    cases hb : oneT bs with
    | none => rfl
    | some t =>
      have := (e t).mpr hb
      rw [ha] at this
      cases this
theorem one_ins (ts : List T) : (match insA [] ts with | [t] => some t | _ => none) = oneT ts := by
  have hm : ∀ x, x ∈ insA [] ts ↔ x ∈ ts := fun x => by rw [insA_mem]; simp
  have hn := insA_nd ts (K := []) (by simp)
  rw [← oneT_set hm]
  cases hk : insA [] ts with
  | nil => rfl
  | cons a r =>
    cases r with
    | nil => simp [oneT]
    | cons b r =>
      rw [hk] at hn
      have : b ≠ a := fun z => by
        rw [z] at hn
        simp at hn
      show none = oneT (a :: b :: r)
      rw [oneT_cons, if_neg fun z => this (z b List.mem_cons_self)]
/-! ### sure_of -/
def tK (t : T) : PyData × PyData := (t.toD, .bool true)
theorem nk_T {a b : T} : nk a.toD = nk b.toD ↔ a = b := ⟨fun h => toD_inj (nk_inj _ _ (toD_kd a) (toD_kd b) h), fun h => by rw [h]⟩
theorem dput_K (K : List T) (t : T) : dputD (K.map tK) t.toD (.bool true) = (insT K t).map tK := by
  have hg : (dgetD (K.map tK) t.toD).isSome = decide (t ∈ K) := by
    unfold dgetD
    rw [Option.isSome_map, Bool.eq_iff_iff, List.find?_isSome, decide_eq_true_eq]
    constructor
    · rintro ⟨p, hp, h⟩
      obtain ⟨x, hx, rfl⟩ := List.mem_map.mp hp
      rw [decide_eq_true_eq] at h
      rw [← nk_T.mp h]
      exact hx
    · intro h
      exact ⟨tK t, List.mem_map.mpr ⟨t, h, rfl⟩, by simp [tK]⟩
  unfold dputD insT
  rw [hg]
  by_cases h : t ∈ K
  · rw [if_pos (by simpa using h), if_pos h, List.map_map]
    refine List.map_congr_left fun x _ => ?_
    show (if nk x.toD = nk t.toD then (x.toD, PyData.bool true) else tK x) = tK x
    by_cases e : nk x.toD = nk t.toD
    · rw [if_pos e]; rfl
    · rw [if_neg e]
  · rw [if_neg (by simpa using h), if_neg h]
    simp [tK]
theorem dcD_K {α : Type} {f : PyData → Option (PyData × PyData)} (g : α → PyData) (h : α → T) : ∀ (xs : List α) (K : List T), (∀ x ∈ xs, f (g x) = some (tK (h x)) ∧ (h x).dep ≤ 8) → K.length + xs.length < 16777216 → dcD f (xs.map g) (K.map tK) = some ((insA K (xs.map h)).map tK)
  | [], K, _, _ => rfl
  | x :: xs, K, H, hl => by
    obtain ⟨h1, h2⟩ := H x List.mem_cons_self
    rw [List.length_cons] at hl
    have hk := toD_nk (h x)
    have h3 : (insT K (h x)).length ≤ K.length + 1 := by
      unfold insT
      by_cases h : h x ∈ K
      · rw [if_pos h]; omega
      · rw [if_neg h]; simp
    rw [List.map_cons, dcD, h1, Option.bind_some, if_pos ⟨toD_kd _, by show (nk (h x).toD).depth ≤ 8; omega, rfl, by rw [sizeLine_eq, List.length_map]; omega⟩]
    show dcD f (xs.map g) (dputD (K.map tK) (h x).toD (.bool true)) = _
    rw [dput_K, dcD_K g h xs (insT K (h x)) (fun y hy => H y (List.mem_cons_of_mem _ hy)) (by omega)]
    rfl
def oD : Option T → PyData
  | some t => t.toD
  | none => .none
theorem keysT_all (K : List T) : ((K.map tK).all fun p => isKd p.1) = true := by
  rw [List.all_eq_true]
  intro p hp
  obtain ⟨e, _, rfl⟩ := List.mem_map.mp hp
  exact toD_kd e
theorem lenDD_K (K : List T) : lenDD (.dict (K.map tK)) = some (.int K.length) := by
  show (if ((K.map tK).all fun p => isKd p.1) = true then _ else _) = _
  rw [if_pos (keysT_all K), List.length_map]
theorem lst_K (K : List T) : lstD (.dict (K.map tK)) = some (.list (K.map T.toD)) := by
  show (if ((K.map tK).all fun p => isKd p.1) = true then _ else _) = _
  rw [if_pos (keysT_all K), List.map_map]; rfl
theorem F_sure_of_ok {D : Dc} {cell : Nat} (H : ∀ e ∈ D, cell < e.1.1.length ∧ hdep e.1.1 ≤ 7) (hl : D.length ≤ 1000) : F_sure_of [dctD D, .int (cell : Int)] = some (oD (oneT (D.map fun e => gt e.1.1 cell))) := by
  rw [← one_ins]
  have e1' : oDc (o1 iKyD (oV 0)) (own_sure_of_0.map (·.2)) (gTupD 2 (gConsD (gN 3) (gConsD (gN 4) gNilD))) (o2 ixD (oV 3) (oV 1)) (oC (.bool true)) [some (dctD D), some (.int (cell : Int)), none, none, none] = some (.dict ((insA [] (D.map fun e => gt e.1.1 cell)).map tK)) := by
    unfold oDc
    rw [show o1 iKyD (oV 0) [some (dctD D), some (.int (cell : Int)), none, none, none] = some (D.map fun e => kD e.1) from e1 rfl (keys_D D), Option.bind_some]
    have := dcD_K (f := fun d => ((gTupD 2 (gConsD (gN 3) (gConsD (gN 4) gNilD))) d (wipeD [some (dctD D), some (.int (cell : Int)), none, none, none] (own_sure_of_0.map (·.2)))).bind fun ρ1 => ((o2 ixD (oV 3) (oV 1)) ρ1).bind fun k => ((oC (.bool true)) ρ1).bind fun v => some (k, v)) (fun e : Ky × List Nat => kD e.1) (fun e => gt e.1.1 cell) D [] (fun e he => by
      obtain ⟨h1, h2⟩ := H e he
      have h3 := gt_dep h1
      have h4 : ixD (hD e.1.1) (.int (cell : Int)) = some ((gt e.1.1 cell).toD) := hD_get h1
      refine ⟨?_, by omega⟩
      show ((ixD (hD e.1.1) (.int (cell : Int))).bind fun k => some (k, PyData.bool true)) = _
      rw [h4]; rfl) (by simp; omega)
    rw [List.map_nil] at this
    rw [this]; rfl
  refine fn_rt rfl (tN (aE e1' rfl) (rE ?_))
  cases hk : insA [] (D.map fun e => gt e.1.1 cell) with
  | nil => exact eN (e2 (e1 rfl (lenDD_K _)) rfl (by simp)) rfl
  | cons t r =>
    cases r with
    | nil => exact eY (e2 (e1 rfl (lenDD_K _)) rfl (by simp)) (e2 (e1 rfl (lst_K _)) rfl rfl)
    | cons u r => exact eN (e2 (e1 rfl (lenDD_K _)) rfl (by simp; omega)) rfl
/-! ### sure_terms -/
section
variable {c m : Nat} {fs : List Nat}
theorem rangeE {ρ : DEnv} {k : Nat} (g : Gm c fs) (h : oV k ρ = some (mD c fs)) : o1 iR1 (o2 ixD (oV k) (oC (.int 0))) ρ = some ((List.range c).map iD) := by
  have hc := g.c3
  refine e1 (e2 h rfl (show ixD (mD c fs) (.int 0) = some (.int c) from rfl)) ?_
  show (if -16777216 ≤ (c : Int) ∧ (c : Int) ≤ 16777216 then some (rgD 0 c) else none) = _
  rw [if_pos (by omega)]
  simp [rgD, iD]
def sureC (D : Dc) (cell : Nat) : PyData := oD (oneT (D.map fun e => gt e.1.1 cell))
def sureR (c : Nat) (D : Dc) : PyData := .tuple ((List.range c).map (sureC D))
theorem oD_notL (o : Option T) : notL (oD o) = true := by
  cases o with
  | none => rfl
  | some t => exact toD_notL t
theorem dps_all {p : List Ln} (hm : m = 1 ∨ m = 2) (hp : p.length ≤ 8) : ∀ D ∈ dps m 0 (D0 c) p, ∃ i, i ≤ p.length ∧ DI c m p i D := fun D hD => by
  obtain ⟨h1, h2⟩ := dps_at (c := c) hm hp p 0 (D0 c) rfl (Nat.zero_le _) (DI_start c m p)
  obtain ⟨j, hj, e⟩ := List.mem_iff_getElem.mp hD
  obtain ⟨D', h3, h4⟩ := h2 j (by omega)
  rw [List.getElem?_eq_getElem hj] at h3
  rw [Nat.zero_add] at h4
  exact ⟨j, by omega, by rw [← e, Option.some.inj h3]; exact h4⟩
theorem F_sure_terms_ok {p : List Ln} (g : Gm c fs) (hp : Pg c fs p) (hm : m = 1 ∨ m = 2) : F_sure_terms [mD c fs, pD p, .int (m : Int)] = some (.tuple ((dps m 0 (D0 c) p).map (sureR c))) := by
  have h8 := hp.len
  have hc := g.c3
  have hlen := (dps_at (c := c) hm h8 p 0 (D0 c) rfl (Nat.zero_le _) (DI_start c m p)).1
  refine fn_rt rfl (tN (xE (eL rfl (F_need_machine_ok g))) (tN (xE (eL rfl (F_need_program_ok g hp.ln h8))) (tN (xE (eL rfl (F_need_many_ok hm))) (tN (aE (eL rfl (F_all_moments_ok g hp hm)) rfl) (rE (e1 (oLc_map dctD (sureR c) _ (e1 rfl rfl) (by omega) fun D hD => ?_) rfl))))))
  obtain ⟨i, hi, hI⟩ := dps_all hm h8 D hD
  have hb := DI_bound g hp hm hi hI
  have hl := hI.len
  have h2 := pow_8 (show i ≤ 8 by omega)
  refine ⟨rfl, _, rfl, e1 (oLc_map iD (sureC D) (List.range c) (rangeE g rfl) (by simp; omega) fun cell hcell => ⟨oD_notL _, _, rfl, eL (eC rfl (eC rfl rfl)) (F_sure_of_ok (D := D) (cell := cell) (fun e he => by
    have := hb e he
    have := List.mem_range.mp hcell
    exact ⟨by omega, by omega⟩) (by omega))⟩) rfl⟩
/-! ### least_harm -/
theorem alikeA : ∀ (a b : List Nat), PySem.W.alikeAll (a.map iD) (b.map iD) = true
  | [], b => by simp [PySem.W.alikeAll]
  | x :: a, [] => by simp [PySem.W.alikeAll]
  | x :: a, y :: b => by
    simp only [List.map_cons, PySem.W.alikeAll, iD, PySem.W.alike, Bool.true_and]
    exact alikeA a b
theorem lD_alike (a b : List Nat) : PySem.W.alike (lD a) (lD b) = true := by
  show PySem.W.alike (.tuple _) (.tuple _) = true
  simp only [PySem.W.alike]
  exact alikeA a b
theorem lD_kd (a : List Nat) : isKd (lD a) = true := areKd_of fun x hx => by
  obtain ⟨n, _, rfl⟩ := List.mem_map.mp hx
  rfl
theorem lD_sh (a : List Nat) : (lD a).canLay0 = true ∧ (lD a).depth ≤ 1 := ⟨kd_lay _ (lD_kd a), by
  show (PyData.tuple _).depth ≤ 1
  simp only [PyData.depth]
  have := depA_of (n := 0) (xs := a.map iD) fun x hx => by
    obtain ⟨n, _, rfl⟩ := List.mem_map.mp hx
    exact Nat.le_refl _
  omega⟩
theorem lD_Sh (a : List Nat) : Sh (lD a) := ⟨(lD_sh a).1, Nat.le_trans (lD_sh a).2 (by omega)⟩
theorem lD_inj {a b : List Nat} (h : lD a = lD b) : a = b := by
  have h : a.map iD = b.map iD := by simpa [lD] using h
  exact (List.map_inj_right fun _ _ => iD_inj).mp h
theorem eqv_L (a b : List Nat) : PyData.eqv (lD a) (lD b) = decide (a = b) := by
  rw [Bool.eq_iff_iff, eqv_kd _ _ (lD_kd a) (lD_kd b), decide_eq_true_eq]
  exact ⟨lD_inj, fun h => by rw [h]⟩
def lkey (l : List Nat) : PyData := .tuple [iD l.length, lD l]
theorem lkey_sh (l : List Nat) : SeqAt.shaped (lkey l) = true := (sh_tup (n := 2) (by omega) fun x hx => by
  simp only [List.mem_cons, List.not_mem_nil, or_false] at hx
  rcases hx with rfl | rfl
  · exact ⟨rfl, by simp [iD, PyData.depth]⟩
  · exact ⟨(lD_sh l).1, Nat.le_trans (lD_sh l).2 (by omega)⟩).s
theorem lkey_alike (a b : List Nat) : PySem.W.alike (lkey a) (lkey b) = true := by
  unfold lkey
  simp only [PySem.W.alike, PySem.W.alikeAll, iD, lD_alike, Bool.and_true, Bool.true_and]
theorem lkey_lt (a b : List Nat) : (PySem.W.dataLt (lkey a) (lkey b) = true → a.length ≤ b.length) ∧ (PySem.W.dataLt (lkey a) (lkey b) = false → b.length ≤ a.length) := by
  by_cases e : a.length = b.length
  · exact ⟨fun _ => by omega, fun _ => by omega⟩
  · have h : PySem.W.dataLt (lkey a) (lkey b) = decide ((a.length : Int) < (b.length : Int)) := by
      unfold PySem.W.dataLt lkey iD
      simp only [PySem.W.keyToks, PySem.W.keyToksAll, List.cons_append, List.nil_append]
      rw [PyProof.Rows.lex_self (O := itemOrd), PyProof.Rows.lex_diff (O := itemOrd) (fun z => e (by have := Sum.inl.inj z; omega))]
      rfl
    rw [h]
    exact ⟨fun h => by have := of_decide_eq_true h; omega, fun h => by have := of_decide_eq_false h; omega⟩
abbrev kfH : PyData → Option PyData := fun d => (oL mkT (oCons (o1 lenD (oV 0)) (oCons (oV 0) oNil))) [some d]
theorem kfH_ok (l : List Nat) : kfH (lD l) = some (lkey l) := by
  refine eL (eC (e1 rfl (show lenD (lD l) = some (iD l.length) from ?_)) rfl) (ap_mkT2 _ _ rfl rfl)
  show some (PyData.int ((l.map iD).length : Int)) = _
  rw [List.length_map]; rfl
theorem mkGo_ok : ∀ (r : List (List Nat)) (d : List Nat), ∃ l, l ∈ d :: r ∧ mkGo kfH (r.map lD) (lD d) (lkey d) = some (lD l) ∧ ∀ l' ∈ d :: r, l.length ≤ l'.length
  | [], d => ⟨d, List.mem_cons_self, rfl, fun l' h => by rw [List.mem_singleton.mp h]; exact Nat.le_refl _⟩
  | e :: r, d => by
    have hk := lkey_lt e d
    rw [List.map_cons, mkGo, kfH_ok, Option.bind_some, if_pos ⟨rfl, lkey_alike e d, rfl, lkey_sh e, lkey_sh d⟩]
    by_cases h : PySem.W.dataLt (lkey e) (lkey d) = true
    · rw [if_pos h]
      obtain ⟨l, h1, h2, h3⟩ := mkGo_ok r e
      refine ⟨l, List.mem_cons_of_mem _ h1, h2, fun l' hl => ?_⟩
      rcases List.mem_cons.mp hl with rfl | hl
      · exact Nat.le_trans (h3 e List.mem_cons_self) (hk.1 h)
      · exact h3 l' hl
    · rw [if_neg h]
      obtain ⟨l, h1, h2, h3⟩ := mkGo_ok r d
      refine ⟨l, ?_, h2, fun l' hl => ?_⟩
      · rcases List.mem_cons.mp h1 with rfl | h1
        · exact List.mem_cons_self
        · exact List.mem_cons_of_mem _ (List.mem_cons_of_mem _ h1)
      · rcases List.mem_cons.mp hl with rfl | hl
        · exact h3 l' List.mem_cons_self
        · rcases List.mem_cons.mp hl with rfl | hl
          · exact Nat.le_trans (h3 d List.mem_cons_self) (hk.2 (by simpa using h))
          · exact h3 l' (List.mem_cons_of_mem _ hl)
theorem mkD_ok {bs : List (List Nat)} (h : bs ≠ []) : ∃ l, l ∈ bs ∧ mkD kfH (.list (bs.map lD)) = some (lD l) ∧ ∀ l' ∈ bs, l.length ≤ l'.length := by
  cases bs with
  | nil => exact absurd rfl h
  | cons d r =>
    obtain ⟨l, h1, h2, h3⟩ := mkGo_ok r d
    refine ⟨l, h1, ?_, h3⟩
    show ((kfH (lD d)).bind fun k => if notL k = true then mkGo kfH (r.map lD) (lD d) k else none) = _
    rw [kfH_ok, Option.bind_some]
    exact h2
/-- the losses behind which some wish is not fulfilled -/
def badL (c m : Nat) (p : List Ln) (ws : List (Nat × T)) : List (List Nat) := (EL m p.length).filter fun l => !ful ws (runs (h0 c) (kp l 0 p))
def olD : Option (List Nat) → PyData
  | some l => lD l
  | none => .none
/-- least_harm's answer -/
structure Lh (bs : List (List Nat)) (o : Option (List Nat)) : Prop where
  no : o = none → bs = []
  yes : ∀ l, o = some l → l ∈ bs ∧ ∀ l' ∈ bs, l.length ≤ l'.length
theorem F_least_harm_ok {p : List Ln} (g : Gm c fs) (hp : Pg c fs p) (hm : m = 1 ∨ m = 2) {ws : List (Nat × T)} (hw : ∀ w ∈ ws, w.1 < c ∧ w.2.dep ≤ 8) : ∃ o, F_least_harm [mD c fs, pD p, .int (m : Int), wD ws] = some (olD o) ∧ Lh (badL c m p ws) o := by
  have h8 := hp.len
  obtain ⟨hlen, hat⟩ := dps_at (c := c) hm h8 p 0 (D0 c) rfl (Nat.zero_le _) (DI_start c m p)
  obtain ⟨D, hD, hI⟩ := hat p.length (Nat.le_refl _)
  rw [Nat.zero_add] at hI
  have hb := DI_bound g hp hm (Nat.le_refl _) hI
  have hl := hI.len
  have h2 := pow_8 h8
  have hlast : atI ((dps m 0 (D0 c) p).map dctD) (-1) = some (dctD D) := by
    have hne : dps m 0 (D0 c) p ≠ [] := fun z => by rw [z] at hlen; simp at hlen
    have e1 := List.dropLast_concat_getLast hne
    have e2 : (dps m 0 (D0 c) p).getLast hne = D := by
      rw [List.getLast_eq_getElem]
      have : (dps m 0 (D0 c) p).length - 1 = p.length := by omega
      rw [List.getElem?_eq_getElem (by omega)] at hD
      simp only [this]
      exact Option.some.inj hD
    rw [← e1, e2, List.map_append]
    exact atI_last _ _
  have ht : p.take p.length = p := List.take_length
  let bs := (D.filter fun e => !ful ws e.1.1).map (·.2)
  have hbs : ∀ l ∈ bs, l ∈ badL c m p ws := fun l hl => by
    obtain ⟨e, he, rfl⟩ := List.mem_map.mp hl
    obtain ⟨he, hf⟩ := List.mem_filter.mp he
    obtain ⟨a, b⟩ := hI.mem e he
    rw [ht] at b
    exact List.mem_filter.mpr ⟨EJ_EL hm h8 a, by rw [← b]; exact hf⟩
  have hle : ∀ l' ∈ badL c m p ws, ∃ l ∈ bs, l.length ≤ l'.length := fun l' hl' => by
    obtain ⟨h1, hf⟩ := List.mem_filter.mp hl'
    obtain ⟨t, hq⟩ := EL_EJ hm h8 h1
    obtain ⟨l2, h3, h4⟩ := hI.has _ hq
    rw [ht] at h3
    exact ⟨l2, List.mem_map.mpr ⟨_, List.mem_filter.mpr ⟨h3, hf⟩, rfl⟩, h4⟩
  have e5 : oLc (o1 iItD (oV 4)) (own_least_harm_0.map (·.2)) (gTupD 2 (gConsD (gTupD 2 (gConsD (gN 6) (gConsD (gN 7) gNilD))) (gConsD (gN 8) gNilD))) (oNot (o1 asB (oL (fun as => F_fulfilled (as ++ [])) (oCons (oV 6) (oCons (oV 3) oNil))))) (oV 8)
      [some (mD c fs), some (pD p), some (.int (m : Int)), some (wD ws), some (dctD D), none, none, none, none] = some (.list (bs.map lD)) := by
    have := oLc_filter (I := o1 iItD (oV 4)) (vs := own_least_harm_0.map (·.2)) (G := gTupD 2 (gConsD (gTupD 2 (gConsD (gN 6) (gConsD (gN 7) gNilD))) (gConsD (gN 8) gNilD))) (T := oNot (o1 asB (oL (fun as => F_fulfilled (as ++ [])) (oCons (oV 6) (oCons (oV 3) oNil))))) (E := oV 8)
      (ρ := [some (mD c fs), some (pD p), some (.int (m : Int)), some (wD ws), some (dctD D), none, none, none, none]) pairD (fun e => lD e.2) (fun e => !ful ws e.1.1) D (e1 rfl (items_D D)) (by omega) fun e he => by
      obtain ⟨b1, b2, b3, b4⟩ := hb e he
      exact ⟨rfl, _, rfl, noE (e1 (eL (eC rfl (eC rfl rfl)) (F_fulfilled_ok (fun w hx => by have := hw w hx; exact ⟨by omega, this.2⟩) (by omega))) rfl) rfl, fun _ => rfl⟩
    rw [this]
    simp [bs, List.map_map, Function.comp_def]
  have run : ∀ o d, o1 truD (oV 5) [some (mD c fs), some (pD p), some (.int (m : Int)), some (wD ws), some (dctD D), some (.list (bs.map lD)), none, none, none] = some o → (if o = true then mkD kfH (.list (bs.map lD)) = some d else d = .none) → F_least_harm [mD c fs, pD p, .int (m : Int), wD ws] = some d := by
    intro o d ho hd
    refine fn_rt rfl (tN (aE (e2 (eL rfl (F_all_moments_ok g hp hm)) rfl hlast) rfl) (tN (aE e5 rfl) (rE ?_)))
    cases o with
    | true => exact eY ho (e1 rfl hd)
    | false =>
      refine eN ho ?_
      have : d = .none := hd
      rw [this]; rfl
  by_cases hz : bs = []
  · refine ⟨none, run false .none ?_ rfl, fun _ => ?_, fun l h => by cases h⟩
    · rw [hz]; rfl
    · cases hbl : badL c m p ws with
      | nil => rfl
      | cons x r =>
        obtain ⟨l, h1, _⟩ := hle x (by rw [hbl]; exact List.mem_cons_self)
        rw [hz] at h1
        cases h1
  · obtain ⟨l, h1, h2', h3⟩ := mkD_ok hz
    refine ⟨some l, run true (lD l) ?_ h2', fun z => (by cases z), fun l2 hl2 => ?_⟩
    · show some (!(bs.map lD).isEmpty) = some true
      cases hbs' : bs with
      | nil => exact absurd hbs' hz
      | cons _ _ => rfl
    · cases hl2
      refine ⟨hbs l h1, fun l' hl' => ?_⟩
      obtain ⟨l3, h4, h5⟩ := hle l' hl'
      exact Nat.le_trans (h3 l3 h4) h5
end
end LL
set_option Elab.async false
set_option linter.all false
set_option maxRecDepth 100000
set_option maxHeartbeats 4000000
set_option autoImplicit false
/-! The plain law: the law's own ends, alike. -/
namespace LL
open PySem PySem.Spec PyProof.Rows L2
theorem oV_ne {i j : Nat} {ρ : DEnv} {x : Option PyData} (h : i ≠ j) : oV i (ρ.set j x) = oV i ρ := by
  show ((ρ.set j x)[i]?).bind id = _
  rw [List.getElem?_set_ne (Ne.symm h)]; rfl
/-! ### alike -/
theorem kit_isa2 : isa2D "tuple" "list" (.int 0) = some false := by decide +kernel
@[simp] theorem isa2_i (v : Int) : isa2D "tuple" "list" (.int v) = some false := kit_isa2
@[simp] theorem isa2_b (v : Bool) : isa2D "tuple" "list" (.bool v) = some false := (by decide +kernel : isa2D "tuple" "list" (.bool true) = some false)
@[simp] theorem isa2_n : isa2D "tuple" "list" .none = some false := by decide +kernel
@[simp] theorem isa2_t (a : List PyData) : isa2D "tuple" "list" (.tuple a) = some true := (by decide +kernel : isa2D "tuple" "list" (.tuple []) = some true)
@[simp] theorem eqN : eqD .none .none = some true := by decide +kernel
@[simp] theorem eqBB (a b : Bool) : eqD (.bool a) (.bool b) = some (a == b) := by simp [eqD, SeqAt.shaped, PyData.canLay0, PyData.depth, PyData.eqv]
@[simp] theorem eqLL : eqD (.list []) (.list []) = some true := by decide +kernel
theorem alike_i (n : Nat) (i : Int) : F_law_alike (n + 1) [.int i, .int i] = some (.bool true) := by
  show fnD 2 3 (S_law_alike (F_law_alike n)) _ = _
  simp [fnD, S_law_alike, runD]
theorem alike_b (n : Nat) (a b : Bool) : F_law_alike (n + 1) [.bool a, .bool b] = some (.bool (a == b)) := by
  show fnD 2 3 (S_law_alike (F_law_alike n)) _ = _
  simp [fnD, S_law_alike, runD, isD, isNoneD]
theorem alike_n (n : Nat) : F_law_alike (n + 1) [.none, .none] = some (.bool true) := by
  show fnD 2 3 (S_law_alike (F_law_alike n)) _ = _
  simp [fnD, S_law_alike, runD]
theorem rg2 : iR1 (.int 2) = some [.int 0, .int 1] := rfl
theorem rg3 : iR1 (.int 3) = some [.int 0, .int 1, .int 2] := rfl
theorem alike_T : ∀ (t : T) (n : Nat), t.dep ≤ n → F_law_alike n [t.toD, t.toD] = some (.bool true)
  | .c i, n, h => by
    cases n with
    | zero => simp [T.dep] at h
    | succ n => exact alike_i n i
  | .f1 g t, n, h => by
    cases n with
    | zero => simp [T.dep] at h
    | succ n =>
      simp only [T.dep] at h
      have hp := T.dep_pos t
      have ih := alike_T t n (by omega)
      obtain ⟨k, rfl⟩ : ∃ k, n = k + 1 := ⟨n - 1, by omega⟩
      have ig := alike_i k g
      have a0 : atI [PyData.int (g : Int), t.toD] 0 = some (.int g) := rfl
      have a1 : atI [PyData.int (g : Int), t.toD] 1 = some t.toD := rfl
      show fnD 2 3 (S_law_alike (F_law_alike (k + 1))) [.tuple [.int g, t.toD], .tuple [.int g, t.toD]] = _
      simp [fnD, S_law_alike, runD, oLc, lcD, own_law_alike_0, rg2, a0, a1, ig, ih, sizeLine_eq]
  | .f2 g t u, n, h => by
    cases n with
    | zero => simp [T.dep] at h
    | succ n =>
      simp only [T.dep] at h
      have hp := T.dep_pos t
      have ih := alike_T t n (by omega)
      have ih2 := alike_T u n (by omega)
      obtain ⟨k, rfl⟩ : ∃ k, n = k + 1 := ⟨n - 1, by omega⟩
      have ig := alike_i k g
      have a0 : atI [PyData.int (g : Int), t.toD, u.toD] 0 = some (.int g) := rfl
      have a1 : atI [PyData.int (g : Int), t.toD, u.toD] 1 = some t.toD := rfl
      have a2 : atI [PyData.int (g : Int), t.toD, u.toD] 2 = some u.toD := rfl
      show fnD 2 3 (S_law_alike (F_law_alike (k + 1))) [.tuple [.int g, t.toD, u.toD], .tuple [.int g, t.toD, u.toD]] = _
      simp [fnD, S_law_alike, runD, oLc, lcD, own_law_alike_0, rg3, a0, a1, a2, ig, ih, ih2, sizeLine_eq]
theorem alike_o {o : Option T} (h : ∀ t, o = some t → t.dep ≤ 12) : F_law_alike 12 [oD o, oD o] = some (.bool true) := by
  cases o with
  | none => exact alike_n 11
  | some t => exact alike_T t 12 (h t rfl)
/-! ### the ends -/
def ends (c m : Nat) (p : List Ln) (i : Nat) : List (List T) := (EL m i).map fun l => runs (h0 c) (kp l 0 (p.take i))
theorem rep_flat (a : PyData) : ∀ n, (List.replicate n [a]).flatten = List.replicate n a
  | 0 => rfl
  | n + 1 => by rw [List.replicate_succ, List.flatten_cons, rep_flat a n]; rfl
theorem mulL (a : List PyData) (n : Nat) (h : a.length * n ≤ 16777216) (hn : n ≤ 1000) : mulD (.list a) (.int (n : Int)) = some (.list (List.replicate n a).flatten) := by
  have e : mulD (.list a) (.int (n : Int)) = if -(2 ^ 63) ≤ (n : Int) ∧ (n : Int) < 2 ^ 63 ∧ a.length * (n : Int).toNat ≤ sizeLine then some (.list (List.replicate (n : Int).toNat a).flatten) else none := by
    unfold mulD
    rfl
  rw [e, if_pos ⟨by omega, by omega, by rw [sizeLine_eq, Int.toNat_natCast]; exact h⟩, Int.toNat_natCast]
theorem eqvA_rep (t : T) : ∀ ts : List T, PyData.eqvAll (ts.map T.toD) (List.replicate ts.length t.toD) = decide (∀ x ∈ ts, x = t)
  | [] => by simp [PyData.eqvAll]
  | x :: r => by
    rw [List.map_cons, List.length_cons, List.replicate_succ, PyData.eqvAll, eqv_T, eqvA_rep t r, Bool.eq_iff_iff]
    simp
section
variable {c m : Nat} {fs : List Nat} {p : List Ln}
theorem take_sl (i : Nat) : sliceD (pD p) none (some (i : Int)) = some (pD (p.take i)) := by
  show sliceD (.tuple _) none _ = _
  rw [sl_to, ← List.map_take]; rfl
theorem take_in (g : Gm c fs) (hp : Pg c fs p) (i : Nat) : In c (p.take i) := fun x hx => hp.in g x (List.mem_of_mem_take hx)
theorem EL_len {i : Nat} (hm : m = 1 ∨ m = 2) (hi : i ≤ 8) : 1 ≤ (EL m i).length ∧ (EL m i).length ≤ 1000 := by
  have : ∀ m ∈ [1, 2], ∀ i ∈ List.range 9, (decide (1 ≤ (EL m i).length) && decide ((EL m i).length ≤ 1000)) = true := by decide +kernel
  have := this m (mn_mem hm) i (List.mem_range.mpr (by omega))
  simpa using this
theorem ranE (g : Gm c fs) (hp : Pg c fs p) (i : Nat) (l : List Nat) : F_law_ran [mD c fs, pD (p.take i), lD l] = some (hD (runs (h0 c) (kp l 0 (p.take i)))) := F_law_ran_ok g (take_in g hp i) l (tm_mono (by omega) (lossy_tm g hp l i))
theorem endsE {ρ : DEnv} (g : Gm c fs) (hp : Pg c fs p) (hm : m = 1 ∨ m = 2) {i : Nat} (hi : i ≤ p.length) (hl : ρ.length = 23) (h2 : oV 2 ρ = some (mD c fs)) (h3 : oV 3 ρ = some (pD p)) (h4 : oV 4 ρ = some (.int (m : Int))) (h9 : oV 9 ρ = some (.int (i : Int))) :
    oLc (o1 iL (oL (fun as => F_law_every_loss (as ++ [])) (oCons (oV 9) (oCons (oV 4) oNil)))) (own_law_1.map (·.2)) (gN 20) oYes (oL (fun as => F_law_ran (as ++ [])) (oCons (oV 2) (oCons (oSl (oV 3) oNoP (oP (oV 9))) (oCons (oV 20) oNil)))) ρ = some (.list ((ends c m p i).map hD)) := by
  have h8 := hp.len
  have hel := EL_len hm (show i ≤ 8 by omega)
  have := oLc_map (I := o1 iL (oL (fun as => F_law_every_loss (as ++ [])) (oCons (oV 9) (oCons (oV 4) oNil)))) (vs := own_law_1.map (·.2)) (G := gN 20) (E := oL (fun as => F_law_ran (as ++ [])) (oCons (oV 2) (oCons (oSl (oV 3) oNoP (oP (oV 9))) (oCons (oV 20) oNil)))) (ρ := ρ)
    lD (fun l => hD (runs (h0 c) (kp l 0 (p.take i)))) (EL m i) (e1 (eL (eC h9 (eC h4 rfl)) (F_law_every_loss_ok hm (by omega))) rfl) (by omega) fun l hl' => ⟨rfl, (wipeD ρ (own_law_1.map (·.2))).set 20 (some (lD l)), rfl, eL (eC (by
      rw [oV_ne (by decide)]
      show oV 2 (ρ.set 20 none) = _
      rw [oV_ne (by decide)]; exact h2) (eC (by
      rw [ap_oSl, ap_oNoP, ap_oP, oV_ne (by decide), oV_ne (by decide)]
      show ((oV 3 (ρ.set 20 none)).bind _) = _
      rw [oV_ne (by decide), h3, Option.bind_some, Option.bind_some]
      show (((oV 9 (ρ.set 20 none)).bind _).bind _) = _
      rw [oV_ne (by decide), h9]
      exact take_sl i) (eC (set_oV (by show 20 < (ρ.set 20 none).length; rw [List.length_set, hl]; decide)) rfl))) (ranE g hp i l)⟩
  rw [this]
  unfold ends
  rw [List.map_map]; rfl
theorem ends_len {i : Nat} (hm : m = 1 ∨ m = 2) (hi : i ≤ 8) : 1 ≤ (ends c m p i).length ∧ (ends c m p i).length ≤ 1000 := by
  unfold ends
  rw [List.length_map]
  exact EL_len hm hi
theorem ends_ok (g : Gm c fs) (hp : Pg c fs p) {i : Nat} {h : List T} (hh : h ∈ ends c m p i) : h.length = c ∧ hdep h ≤ 7 := by
  obtain ⟨l, _, rfl⟩ := List.mem_map.mp hh
  exact ⟨by rw [runs_len, h0_len], lossy g hp i l⟩
theorem hD_Sh {h : List T} (hd : hdep h ≤ 12) : Sh (hD h) := sh_tup (n := 12) (by omega) fun x hx => by
  obtain ⟨t, ht, rfl⟩ := List.mem_map.mp hx
  have h1 := le_hdep ht
  have h2 := toD_depth t
  exact ⟨kd_lay _ (toD_kd t), by omega⟩
theorem noneE {xs : List (List T)} (h : ∀ x ∈ xs, hdep x ≤ 12) : inD .none (.list (xs.map hD)) = some false := by
  have : inD .none (.list (xs.map hD)) = if SeqAt.shaped .none = true ∧ SeqAt.shaped (.list (xs.map hD)) = true then some ((xs.map hD).any fun z => PyData.eqv z .none) else none := by
    simp [inD]
  rw [this, if_pos ⟨Sh.none.s, sh_list fun x hx => by
    obtain ⟨h', hh, rfl⟩ := List.mem_map.mp hx
    exact hD_Sh (h h' hh)⟩]
  congr 1
  rw [List.any_eq_false]
  intro x hx
  obtain ⟨h', hh, rfl⟩ := List.mem_map.mp hx
  simp [hD, PyData.eqv]
theorem cellE {ρ : DEnv} {xs : List (List T)} {cell : Nat} (hx : ∀ x ∈ xs, cell < x.length) (hn : xs.length ≤ 1000) (hl : ρ.length = 23) (h10 : oV 10 ρ = some (.list (xs.map hD))) (h7 : oV 7 ρ = some (.int (cell : Int))) :
    oLc (o1 iL (oV 10)) (own_law_2.map (·.2)) (gN 6) oYes (o2 ixD (oV 6) (oV 7)) ρ = some (.list ((xs.map fun h => gt h cell).map T.toD)) := by
  have := oLc_map (I := o1 iL (oV 10)) (vs := own_law_2.map (·.2)) (G := gN 6) (E := o2 ixD (oV 6) (oV 7)) (ρ := ρ) hD (fun h => (gt h cell).toD) xs (e1 h10 rfl) (by omega) fun h hh => ⟨toD_notL _, (wipeD ρ (own_law_2.map (·.2))).set 6 (some (hD h)), rfl, e2 (set_oV (by show 6 < (ρ.set 6 none).length; rw [List.length_set, hl]; decide)) (by
    rw [oV_ne (by decide)]
    show oV 7 (ρ.set 6 none) = _
    rw [oV_ne (by decide)]; exact h7) (hD_get (hx h hh))⟩
  rw [this, List.map_map]; rfl
theorem oneE {ρ : DEnv} {t : T} {r : List T} (hd : ∀ x ∈ t :: r, x.dep ≤ 12) (hn : (t :: r).length ≤ 1000) (h11 : oV 11 ρ = some (.list ((t :: r).map T.toD))) :
    oIf (o2 eqD (oV 11) (o2 mulD (oL mkL (oCons (o2 ixD (oV 11) (oC (.int 0))) oNil)) (o1 lenD (oV 11)))) (o2 ixD (oV 11) (oC (.int 0))) (oC .none) ρ = some (oD (oneT (t :: r))) := by
  have h0 : ixD (.list ((t :: r).map T.toD)) (.int 0) = some t.toD := atI_nat (xs := (t :: r).map T.toD) (j := 0) rfl
  have hm : mulD (.list [t.toD]) (.int (((t :: r).map T.toD).length : Int)) = some (.list (List.replicate (t :: r).length t.toD)) := by
    rw [List.length_map, mulL _ _ (by rw [List.length_singleton, Nat.one_mul]; exact Nat.le_trans hn (by omega)) hn, rep_flat]
  have s1 : SeqAt.shaped (.list ((t :: r).map T.toD)) = true := sh_list fun x hx => by
    obtain ⟨u, hu, rfl⟩ := List.mem_map.mp hx
    exact toD_sh (Nat.le_trans (hd u hu) (by omega))
  have s2 : SeqAt.shaped (.list (List.replicate (t :: r).length t.toD)) = true := sh_list fun x hx => by
    rw [(List.mem_replicate.mp hx).2]
    exact toD_sh (Nat.le_trans (hd t List.mem_cons_self) (by omega))
  have he : eqD (.list ((t :: r).map T.toD)) (.list (List.replicate (t :: r).length t.toD)) = some (decide (∀ x ∈ t :: r, x = t)) := by
    unfold eqD
    rw [if_pos ⟨s1, s2⟩, PyData.eqv, eqvA_rep]
  rw [oneT_cons]
  by_cases h : ∀ x ∈ r, x = t
  · rw [if_pos h]
    refine eY (e2 h11 (e2 (eL (eC (e2 h11 rfl h0) rfl) (ap_mkL1 _ (toD_notL _))) (e1 h11 rfl) hm) (he.trans ?_)) (e2 h11 rfl h0)
    rw [decide_eq_true]
    intro x hx
    rcases List.mem_cons.mp hx with rfl | hx
    · rfl
    · exact h x hx
  · rw [if_neg h]
    refine eN (e2 h11 (e2 (eL (eC (e2 h11 rfl h0) rfl) (ap_mkL1 _ (toD_notL _))) (e1 h11 rfl) hm) (he.trans ?_)) rfl
    rw [decide_eq_false]
    exact fun z => h fun x hx => z x (List.mem_cons_of_mem _ hx)
theorem ends_D {i : Nat} (hm : m = 1 ∨ m = 2) (hi : i ≤ 8) {D : Dc} (hI : DI c m p i D) (cell : Nat) : oneT (D.map fun e => gt e.1.1 cell) = oneT ((ends c m p i).map fun h => gt h cell) := oneT_set fun x => by
  constructor
  · intro hx
    obtain ⟨e, he, rfl⟩ := List.mem_map.mp hx
    obtain ⟨a, b⟩ := hI.mem e he
    exact List.mem_map.mpr ⟨e.1.1, List.mem_map.mpr ⟨e.2, EJ_EL hm hi a, b.symm⟩, rfl⟩
  · intro hx
    obtain ⟨h, hh, rfl⟩ := List.mem_map.mp hx
    obtain ⟨l, hl, rfl⟩ := List.mem_map.mp hh
    obtain ⟨t, ht⟩ := EL_EJ hm hi hl
    obtain ⟨l', h1, _⟩ := hI.has _ ht
    exact List.mem_map.mpr ⟨_, h1, rfl⟩
end
end LL
set_option Elab.async false
set_option linter.all false
set_option maxRecDepth 100000
set_option maxHeartbeats 4000000
set_option autoImplicit false
/-! The plain law: harm, shows_harm, what the law asks of them. -/
namespace LL
open PySem PySem.Spec PyProof.Rows L2
theorem isN_eq (v : PyData) : isD v .none = some (isNoneD v) := rfl
theorem oN_is (o : Option (List Nat)) : isNoneD (olD o) = o.isNone := by cases o <;> rfl
theorem notL_olD (o : Option (List Nat)) : notL (olD o) = true := by cases o <;> rfl
theorem emptyE (bs : List (List Nat)) : eqD (.list (bs.map lD)) (.list []) = some bs.isEmpty := by
  unfold eqD
  rw [if_pos ⟨sh_list fun x hx => by
    obtain ⟨l, _, rfl⟩ := List.mem_map.mp hx
    exact lD_Sh l, sh_list fun x hx => by cases hx⟩]
  cases bs <;> simp [PyData.eqv, PyData.eqvAll]
theorem memE (l : List Nat) (bs : List (List Nat)) : inD (lD l) (.list (bs.map lD)) = some (decide (l ∈ bs)) := by
  have : inD (lD l) (.list (bs.map lD)) = if SeqAt.shaped (lD l) = true ∧ SeqAt.shaped (.list (bs.map lD)) = true then some ((bs.map lD).any fun z => PyData.eqv z (lD l)) else none := rfl
  rw [this, if_pos ⟨(lD_Sh l).s, sh_list fun x hx => by
    obtain ⟨l, _, rfl⟩ := List.mem_map.mp hx
    exact lD_Sh l⟩]
  congr 1
  rw [Bool.eq_iff_iff, List.any_eq_true, decide_eq_true_eq]
  constructor
  · rintro ⟨x, hx, h⟩
    obtain ⟨l', hl, rfl⟩ := List.mem_map.mp hx
    rw [eqv_L, decide_eq_true_eq] at h
    rw [← h]; exact hl
  · intro h
    exact ⟨lD l, List.mem_map.mpr ⟨l, h, rfl⟩, by rw [eqv_L, decide_eq_true_eq]⟩
theorem minF_spec : ∀ (r : List Int) (x : Int), r.foldl min x ∈ x :: r ∧ ∀ y ∈ x :: r, r.foldl min x ≤ y
  | [], x => ⟨List.mem_cons_self, fun y hy => by rw [List.mem_singleton.mp hy]; exact Int.le_refl _⟩
  | z :: r, x => by
    obtain ⟨h1, h2⟩ := minF_spec r (min x z)
    rw [List.foldl_cons]
    have hm : min x z ≤ x ∧ min x z ≤ z := ⟨by omega, by omega⟩
    have h3 := h2 _ List.mem_cons_self
    refine ⟨?_, fun y hy => ?_⟩
    · rcases List.mem_cons.mp h1 with h | h
      · rw [h]
        by_cases hx : x ≤ z
        · rw [show min x z = x by omega]; exact List.mem_cons_self
        · rw [show min x z = z by omega]; exact List.mem_cons_of_mem _ List.mem_cons_self
      · exact List.mem_cons_of_mem _ (List.mem_cons_of_mem _ h)
    · rcases List.mem_cons.mp hy with rfl | hy
      · exact Int.le_trans h3 hm.1
      · rcases List.mem_cons.mp hy with rfl | hy
        · exact Int.le_trans h3 hm.2
        · exact h2 y (List.mem_cons_of_mem _ hy)
/-- the least of the lengths and 99 -/
def Lst (bs : List (List Nat)) (v : Nat) : Prop := (∀ l ∈ bs, v ≤ l.length) ∧ (v = 99 ∨ ∃ l ∈ bs, v = l.length)
section
variable {c m : Nat} {fs : List Nat} {p : List Ln} {ws : List (Nat × T)} {ρ : DEnv}
theorem everyE (hm : m = 1 ∨ m = 2) (hp : Pg c fs p) (h3 : oV 3 ρ = some (pD p)) (h4 : oV 4 ρ = some (.int (m : Int))) : oL (fun as => F_law_every_loss (as ++ [])) (oCons (o1 lenD (oV 3)) (oCons (oV 4) oNil)) ρ = some (.list ((EL m p.length).map lD)) := by
  refine eL (eC (e1 h3 (show lenD (pD p) = some (.int (p.length : Int)) from ?_)) (eC h4 rfl)) (F_law_every_loss_ok hm hp.len)
  show some (PyData.int ((p.map Ln.toD).length : Int)) = _
  rw [List.length_map]
theorem badE (g : Gm c fs) (hp : Pg c fs p) (hm : m = 1 ∨ m = 2) (hw : ∀ w ∈ ws, w.1 < c ∧ w.2.dep ≤ 8) (hwl : ws.length ≤ 3) (hl : ρ.length = 23) (h2 : oV 2 ρ = some (mD c fs)) (h3 : oV 3 ρ = some (pD p)) (h5 : oV 5 ρ = some (wD ws)) (h12 : oV 12 ρ = some (.list ((EL m p.length).map lD))) :
    oLc (o1 iL (oV 12)) (own_law_3.map (·.2)) (gN 20) (o1 asB (oL (fun as => F_law_bad (as ++ [])) (oCons (oV 2) (oCons (oV 3) (oCons (oV 20) (oCons (oV 5) oNil)))))) (oV 20) ρ = some (.list ((badL c m p ws).map lD)) := by
  have hel := EL_len hm hp.len
  have ht : p.take p.length = p := List.take_length
  have q : ∀ k, k ≠ 20 → ∀ x, oV k ((wipeD ρ (own_law_3.map (·.2))).set 20 x) = oV k ρ := fun k hk x => by
    rw [oV_ne hk]
    show oV k (ρ.set 20 none) = _
    rw [oV_ne hk]
  have q20 : ∀ x, oV 20 ((wipeD ρ (own_law_3.map (·.2))).set 20 (some x)) = some x := fun x => set_oV (by show 20 < (ρ.set 20 none).length; rw [List.length_set, hl]; decide)
  exact oLc_filter lD lD (fun l => !ful ws (runs (h0 c) (kp l 0 p))) (EL m p.length) (e1 h12 rfl) (by omega) fun l hl' => ⟨rfl, (wipeD ρ (own_law_3.map (·.2))).set 20 (some (lD l)), rfl, e1 (eL (eC ((q 2 (by decide) _).trans h2) (eC ((q 3 (by decide) _).trans h3) (eC (q20 _) (eC ((q 5 (by decide) _).trans h5) rfl)))) (by
    have t1 := lossy_tm g hp l p.length
    have t2 := lossy g hp p.length l
    rw [ht] at t1 t2
    exact F_law_bad_ok g (hp.in g) l (tm_mono (by omega) t1) hw hwl (by omega))) rfl, fun _ => q20 _⟩
theorem badL_len (hm : m = 1 ∨ m = 2) (hp : Pg c fs p) : (badL c m p ws).length ≤ 1000 := Nat.le_trans (List.length_filter_le _ _) (EL_len hm hp.len).2
theorem leastE {bs : List (List Nat)} (hb : bs.length ≤ 1000) (hl : ρ.length = 23) (h13 : oV 13 ρ = some (.list (bs.map lD))) :
    ∃ v : Nat, o1 minD (o2 addD (oLc (o1 iL (oV 13)) (own_law_4.map (·.2)) (gN 20) oYes (o1 lenD (oV 20))) (oL mkL (oCons (oC (.int 99)) oNil))) ρ = some (.int (v : Int)) ∧ Lst bs v := by
  have e1' : oLc (o1 iL (oV 13)) (own_law_4.map (·.2)) (gN 20) oYes (o1 lenD (oV 20)) ρ = some (.list (bs.map fun l : List Nat => iD l.length)) :=
    oLc_map lD (fun l => iD l.length) bs (e1 h13 rfl) (by omega) fun l _ => ⟨rfl, (wipeD ρ (own_law_4.map (·.2))).set 20 (some (lD l)), rfl, e1 (set_oV (by show 20 < (ρ.set 20 none).length; rw [List.length_set, hl]; decide)) (by
      show some (PyData.int ((l.map iD).length : Int)) = _
      rw [List.length_map]; rfl)⟩
  have ea : addD (.list (bs.map fun l : List Nat => iD l.length)) (.list [.int 99]) = some (.list ((bs.map (fun l : List Nat => (l.length : Int)) ++ [99]).map PyData.int)) := by
    show (if _ then some _ else none) = _
    rw [if_pos (by rw [sizeLine_eq]; simp; omega)]
    simp [iD]
  obtain ⟨x, r, hr⟩ : ∃ x r, bs.map (fun l : List Nat => (l.length : Int)) ++ [99] = x :: r := by
    cases bs with
    | nil => exact ⟨_, _, rfl⟩
    | cons b bs => exact ⟨_, _, rfl⟩
  obtain ⟨s1, s2⟩ := minF_spec r x
  rw [← hr] at s1 s2
  have em : minD (.list ((bs.map (fun l : List Nat => (l.length : Int)) ++ [99]).map PyData.int)) = some (.int (r.foldl min x)) := by
    show ((intsOf _).bind minL).bind _ = _
    rw [ints_of, hr]; rfl
  have hv : ∃ v : Nat, r.foldl min x = (v : Int) ∧ (v = 99 ∨ ∃ l ∈ bs, v = l.length) := by
    rcases List.mem_append.mp s1 with h | h
    · obtain ⟨l, hl', h⟩ := List.mem_map.mp h
      exact ⟨l.length, h.symm, .inr ⟨l, hl', rfl⟩⟩
    · exact ⟨99, List.mem_singleton.mp h, .inl rfl⟩
  obtain ⟨v, h1, h2⟩ := hv
  refine ⟨v, e1 (e2 e1' (eL rfl (ap_mkL1 _ rfl)) ea) (em.trans (by rw [h1])), fun l hl' => ?_, h2⟩
  have := s2 (l.length : Int) (List.mem_append_left _ (List.mem_map.mpr ⟨l, hl', rfl⟩))
  rw [h1] at this
  omega
theorem Lst.eq {bs : List (List Nat)} {v : Nat} (h : Lst bs v) {l : List Nat} (hl : l ∈ bs) (hmin : ∀ l' ∈ bs, l.length ≤ l'.length) (h99 : l.length ≤ 99) : v = l.length := by
  have h1 := h.1 l hl
  rcases h.2 with h2 | ⟨l', h2, h3⟩
  · omega
  · have := hmin l' h2
    omega
structure Wk (c : Nat) (fs : List Nat) (m : Nat) (p : List Ln) (ws : List (Nat × T)) : Prop where
  g : Gm c fs
  hp : Pg c fs p
  hm : m = 1 ∨ m = 2
  hw : Wg c fs ws
theorem Wk.w (k : Wk c fs m p ws) : ∀ w ∈ ws, w.1 < c ∧ w.2.dep ≤ 8 := fun w hw => ⟨(k.hw.ok w hw).1, (k.hw.ok w hw).2.2⟩
theorem Wk.need (k : Wk c fs m p ws) : F_need_wished [mD c fs, pD p, .int (m : Int), wD ws] = some .none := F_need_wished_ok k.g k.hp.ln k.hp.len k.hm k.hw
theorem harm_ok (k : Wk c fs m p ws) : ∃ o, F_least_harm [mD c fs, pD p, .int (m : Int), wD ws] = some (olD o) ∧ Lh (badL c m p ws) o := F_least_harm_ok k.g k.hp k.hm k.w
variable {o : Option (List Nat)}
theorem F_harm_ok (k : Wk c fs m p ws) (ho : F_least_harm [mD c fs, pD p, .int (m : Int), wD ws] = some (olD o)) : F_harm [mD c fs, pD p, .int (m : Int), wD ws] = some (olD o) := fn_rt rfl (tN (xE (eL rfl k.need)) (rE (eL rfl ho)))
theorem Lh.iff {bs : List (List Nat)} (h : Lh bs o) : o.isNone = bs.isEmpty := by
  cases ho : o with
  | none => rw [h.no ho]; rfl
  | some l =>
    have := (h.yes l ho).1
    cases hb : bs with
    | nil => rw [hb] at this; cases this
    | cons _ _ => rfl
theorem F_is_proof_ok (k : Wk c fs m p ws) (ho : F_least_harm [mD c fs, pD p, .int (m : Int), wD ws] = some (olD o)) (hh : Lh (badL c m p ws) o) : F_is_proof [mD c fs, pD p, .int (m : Int), wD ws] = some (.bool (badL c m p ws).isEmpty) :=
  fn_rt rfl (tN (xE (eL rfl k.need)) (rE (eB (e2 (eL rfl ho) rfl ((isN_eq _).trans (by rw [oN_is, hh.iff]))))))
/-- what the law asks of harm's answer does not break -/
theorem harmE (hh : Lh (badL c m p ws) o) {v : Nat} (hv : Lst (badL c m p ws) v) (hm : m = 1 ∨ m = 2) (hp : Pg c fs p) (h13 : oV 13 ρ = some (.list ((badL c m p ws).map lD))) (h14 : oV 14 ρ = some (.int (v : Int))) (h15 : oV 15 ρ = some (olD o)) :
    oOr (o2 neD (oB (o2 isD (oV 15) (oC .none))) (oB (o2 eqD (oV 13) (oL mkL oNil)))) (oAnd (o2 notD (oV 15) (oC .none)) (oOr (o2 (fun a b => (inD a b).map (!·)) (oV 15) (oV 13)) (o2 neD (o1 lenD (oV 15)) (oV 14)))) ρ = some false := by
  have hi := hh.iff
  refine orF (e2 (eB (e2 h15 rfl (isN_eq _))) (eB (e2 h13 (eL rfl ap_mkL0) (emptyE _))) (by rw [oN_is, hi, ap_neB]; simp)) ?_
  cases ho : o with
  | none =>
    rw [ho] at h15
    exact anF (e2 h15 rfl rfl)
  | some l =>
    rw [ho] at h15
    obtain ⟨h1, h2⟩ := hh.yes l ho
    have hl8 := (EL_lt hm hp.len (List.mem_filter.mp h1).1).2
    have h8 := hp.len
    have hvl := hv.eq h1 h2 (by omega)
    refine anT (e2 h15 rfl rfl) (orF (e2 h15 h13 ?_) (e2 (e1 h15 (show lenD (lD l) = some (iD l.length) from ?_)) h14 ?_))
    · show (inD (lD l) _).map _ = _
      rw [memE]
      simp [h1]
    · show some (PyData.int ((l.map iD).length : Int)) = _
      rw [List.length_map]; rfl
    · rw [hvl]
      show neD (.int _) (.int _) = _
      rw [ap_neI]
      simp
/-! ### shows_harm -/
theorem shows_none (k : Wk c fs m p ws) (ho : F_least_harm [mD c fs, pD p, .int (m : Int), wD ws] = some .none) (v : PyData) : F_shows_harm [mD c fs, pD p, .int (m : Int), wD ws, v] = some (.bool (isNoneD v)) :=
  fn_rt rfl (tN (xE (eL rfl k.need)) (tN (aE (eL rfl ho) rfl) (tR (iY (orT (e2 rfl rfl rfl)) (rE (eB (anT (e2 rfl rfl rfl) (e2 rfl rfl rfl))))))))
theorem shows_vnone {l : List Nat} (k : Wk c fs m p ws) (ho : F_least_harm [mD c fs, pD p, .int (m : Int), wD ws] = some (lD l)) : F_shows_harm [mD c fs, pD p, .int (m : Int), wD ws, .none] = some (.bool false) :=
  fn_rt rfl (tN (xE (eL rfl k.need)) (tN (aE (eL rfl ho) rfl) (tR (iY (orF (e2 rfl rfl rfl) (e2 rfl rfl rfl)) (rE (eB (anF (e2 rfl rfl rfl))))))))
theorem shows_no {l : List Nat} (k : Wk c fs m p ws) (ho : F_least_harm [mD c fs, pD p, .int (m : Int), wD ws] = some (lD l)) {v : PyData} (hv : isNoneD v = false) (ha : F_are_losses [pD p, .int (m : Int), v] = some (.bool false)) : F_shows_harm [mD c fs, pD p, .int (m : Int), wD ws, v] = some (.bool false) :=
  fn_rt rfl (tN (xE (eL rfl k.need)) (tN (aE (eL rfl ho) rfl) (tN (iN (orF (e2 rfl rfl rfl) (e2 rfl rfl ((isN_eq v).trans (by rw [hv])))) rfl) (tR (iY (orT (noE (e1 (eL rfl ha) rfl) rfl)) (rE rfl))))))
theorem len_lD (l : List Nat) : lenD (lD l) = some (iD l.length) := by
  show some (PyData.int ((l.map iD).length : Int)) = _
  rw [List.length_map]; rfl
theorem shows_yes {l l0 : List Nat} (k : Wk c fs m p ws) (ho : F_least_harm [mD c fs, pD p, .int (m : Int), wD ws] = some (lD l0)) (hl : l ∈ EL m p.length) : F_shows_harm [mD c fs, pD p, .int (m : Int), wD ws, lD l] = some (.bool (decide (l.length = l0.length) && !ful ws (runs (h0 c) (kp l 0 p)))) := by
  have ht : p.take p.length = p := List.take_length
  have t1 := lossy_tm k.g k.hp l p.length
  have t2 := lossy k.g k.hp p.length l
  rw [ht] at t1 t2
  have el := F_lost_behind_ok k.g.c3 (k.hp.in k.g) l (tm_mono (by omega) t1)
  have ef := F_fulfilled_ok (ws := ws) (h := runs (h0 c) (kp l 0 p)) (fun w hw => by rw [runs_len, h0_len]; exact k.w w hw) (by omega)
  have ne : neD (iD l.length) (iD l0.length) = some (!decide (l.length = l0.length)) := by
    show neD (.int _) (.int _) = _
    rw [ap_neI]
    congr 2
    rw [Bool.eq_iff_iff, decide_eq_true_eq, decide_eq_true_eq]
    omega
  refine fn_rt rfl (tN (xE (eL rfl k.need)) (tN (aE (eL rfl ho) rfl) (tN (iN (orF (e2 rfl rfl rfl) (e2 rfl rfl rfl)) rfl) ?_)))
  by_cases h : l.length = l0.length
  · rw [decide_eq_true h, Bool.true_and]
    exact tN (iN (orF (noE (e1 (eL rfl (are_EL k.hm k.hp.len hl)) rfl) rfl) (e2 (e1 rfl (len_lD l)) (e1 rfl (len_lD l0)) (ne.trans (by rw [decide_eq_true h]; rfl)))) rfl) (rE (eB (noE (e1 (eL (eC (eL (eC (eL rfl (F_first_terms_ok k.g)) rfl) el) rfl) ef) rfl) rfl)))
  · rw [decide_eq_false h, Bool.false_and]
    exact tR (iY (orF (noE (e1 (eL rfl (are_EL k.hm k.hp.len hl)) rfl) rfl) (e2 (e1 rfl (len_lD l)) (e1 rfl (len_lD l0)) (ne.trans (by rw [decide_eq_false h]; rfl)))) (rE rfl))
/-! ### the values that the law asks about -/
inductive Vk (m n : Nat) : PyData → Prop
  | el (l : List Nat) (h : l ∈ EL m n) : Vk m n (lD l)
  | no : Vk m n .none
  | op (v : PyData) (h : isaD "tuple" v = some false) (h' : isNoneD v = false) : Vk m n v
  | out (l : List Nat) (h : l ∉ EL m n) : Vk m n (lD l)
  | tr : Vk m n (.tuple [.bool true])
theorem fine_ok (k : Wk c fs m p ws) (ho : F_least_harm [mD c fs, pD p, .int (m : Int), wD ws] = some (olD o)) (hh : Lh (badL c m p ws) o) {lv : Nat} (hv : Lst (badL c m p ws) lv) {v : PyData} (hk : Vk m p.length v)
    (hout : ∀ l, l ∉ EL m p.length → v = lD l → F_are_losses [pD p, .int (m : Int), lD l] = some (.bool false)) :
    ∃ b1 b2 : Bool, (∀ ρ : DEnv, oV 17 ρ = some v → oV 13 ρ = some (.list ((badL c m p ws).map lD)) → oV 14 ρ = some (.int (lv : Int)) → oB (oAnd (o1 (isaD "tuple") (oV 17)) (oAnd (o2 inD (oV 17) (oV 13)) (o2 eqD (o1 lenD (oV 17)) (oV 14)))) ρ = some (.bool b1)) ∧
      (∀ ρ : DEnv, ρ.length = 23 → oV 17 ρ = some v → oV 18 ρ = some (.bool b1) → oB (oAnd (o1 asB (oV 18)) (o2 eqD (oLc (o1 iT (oV 17)) (own_law_5.map (·.2)) (gN 21) (o1 (isaD "bool") (oV 21)) (oV 21)) (oL mkL oNil))) ρ = some (.bool b2)) ∧
      F_shows_harm [mD c fs, pD p, .int (m : Int), wD ws, v] = some (.bool (if isNoneD v = true then (badL c m p ws).isEmpty else b2)) := by
  have hi := hh.iff
  have skip : ∀ ρ : DEnv, oV 18 ρ = some (.bool false) → oB (oAnd (o1 asB (oV 18)) (o2 eqD (oLc (o1 iT (oV 17)) (own_law_5.map (·.2)) (gN 21) (o1 (isaD "bool") (oV 21)) (oV 21)) (oL mkL oNil))) ρ = some (.bool false) := fun ρ h => eB (anF (e1 h rfl))
  have q21 : ∀ (ρ : DEnv) x, ρ.length = 23 → oV 21 ((wipeD ρ (own_law_5.map (·.2))).set 21 (some x)) = some x := fun ρ x hl => set_oV (by show 21 < (ρ.set 21 none).length; rw [List.length_set, hl]; decide)
  have nobool : ∀ (l : List Nat) (ρ : DEnv), l.length ≤ 100 → ρ.length = 23 → oV 17 ρ = some (lD l) → o2 eqD (oLc (o1 iT (oV 17)) (own_law_5.map (·.2)) (gN 21) (o1 (isaD "bool") (oV 21)) (oV 21)) (oL mkL oNil) ρ = some true := fun l ρ h10 hl h => by
    have e := oLc_filter (I := o1 iT (oV 17)) (vs := own_law_5.map (·.2)) (G := gN 21) (T := o1 (isaD "bool") (oV 21)) (E := oV 21) (ρ := ρ) iD iD (fun _ => false) l (e1 h rfl) (by omega) fun x hx => ⟨rfl, (wipeD ρ (own_law_5.map (·.2))).set 21 (some (iD x)), rfl, e1 (q21 ρ _ hl) (isa_bool_i _), fun z => by cases z⟩
    refine e2 e (eL rfl ap_mkL0) ?_
    have : l.filter (fun _ => false) = [] := List.filter_eq_nil_iff.mpr fun _ _ => by simp
    rw [this]
    exact eqLL
  have shno : ∀ v, isNoneD v = false → F_are_losses [pD p, .int (m : Int), v] = some (.bool false) → F_shows_harm [mD c fs, pD p, .int (m : Int), wD ws, v] = some (.bool false) := fun v hn ha => by
    cases ho' : o with
    | none =>
      rw [ho'] at ho
      rw [shows_none k ho v, hn]
    | some l0 =>
      rw [ho'] at ho
      exact shows_no k ho hn ha
  cases hk with
  | el l h =>
    have hl8 := (EL_lt k.hm k.hp.len h).2
    have h8 := k.hp.len
    have hb : decide (l ∈ badL c m p ws) = !ful ws (runs (h0 c) (kp l 0 p)) := by
      rw [Bool.eq_iff_iff, decide_eq_true_eq]
      unfold badL
      rw [List.mem_filter]
      exact ⟨fun z => z.2, fun z => ⟨h, z⟩⟩
    refine ⟨decide (l ∈ badL c m p ws) && decide (l.length = lv), decide (l ∈ badL c m p ws) && decide (l.length = lv), fun ρ h17 h13 h14 => ?_, fun ρ hl h17 h18 => ?_, ?_⟩
    · refine eB (anT (e1 h17 (isa_tup_t _)) ?_)
      cases hin : decide (l ∈ badL c m p ws) with
      | false => exact anF (e2 h17 h13 ((memE l _).trans (by rw [hin])))
      | true =>
        refine anT (e2 h17 h13 ((memE l _).trans (by rw [hin]))) (e2 (e1 h17 (len_lD l)) h14 ?_)
        show eqD (.int _) (.int _) = _
        rw [ap_eqI, Bool.true_and]
        congr 1
        rw [Bool.eq_iff_iff, decide_eq_true_eq, decide_eq_true_eq]
        omega
    · cases hb1 : (decide (l ∈ badL c m p ws) && decide (l.length = lv)) with
      | false => exact skip ρ (by rw [h18, hb1])
      | true => exact eB (anT (e1 (h18.trans (by rw [hb1])) rfl) (nobool l ρ (by omega) hl h17))
    · show _ = some (PyData.bool (decide (l ∈ badL c m p ws) && decide (l.length = lv)))
      cases ho' : o with
      | none =>
        have hbe := hh.no ho'
        rw [ho'] at ho
        rw [shows_none k ho, hbe]
        rfl
      | some l0 =>
        obtain ⟨h1, h2⟩ := hh.yes l0 ho'
        have h08 := (EL_lt k.hm k.hp.len (List.mem_filter.mp h1).1).2
        have hlv := hv.eq h1 h2 (by omega)
        rw [ho'] at ho
        rw [shows_yes k ho h, hb, hlv, Bool.and_comm]
  | no =>
    refine ⟨false, false, fun ρ h17 _ _ => eB (anF (e1 h17 isa_tup_n)), fun ρ _ _ h18 => skip ρ h18, ?_⟩
    show _ = some (PyData.bool (badL c m p ws).isEmpty)
    rw [← hi]
    cases ho' : o with
    | none =>
      rw [ho'] at ho
      exact shows_none k ho _
    | some l0 =>
      rw [ho'] at ho
      exact shows_vnone k ho
  | op v h h' =>
    refine ⟨false, false, fun ρ h17 _ _ => eB (anF (e1 h17 h)), fun ρ _ _ h18 => skip ρ h18, ?_⟩
    rw [h']
    exact shno v h' (are_notup h)
  | out l h =>
    refine ⟨false, false, fun ρ h17 h13 _ => eB (anT (e1 h17 (isa_tup_t _)) (anF (e2 h17 h13 ((memE l _).trans ?_)))), fun ρ _ _ h18 => skip ρ h18, ?_⟩
    · rw [decide_eq_false]
      exact fun z => h (List.mem_filter.mp z).1
    · exact shno (lD l) rfl (hout l h rfl)
  | tr =>
    have hs : Sh (.tuple [.bool true]) := ⟨by simp [PyData.canLay0, PyData.canLayAll0], by simp [PyData.depth, PyData.depthAll]⟩
    have hsl : SeqAt.shaped (.list ((badL c m p ws).map lD)) = true := sh_list fun x hx => by
      obtain ⟨l, _, rfl⟩ := List.mem_map.mp hx
      exact lD_Sh l
    have hin : inD (.tuple [.bool true]) (.list ((badL c m p ws).map lD)) = some (((badL c m p ws).map lD).any fun z => PyData.eqv z (.tuple [.bool true])) := by
      show (if _ then some _ else none) = _
      rw [if_pos ⟨hs.s, hsl⟩]
    refine ⟨(((badL c m p ws).map lD).any fun z => PyData.eqv z (.tuple [.bool true])) && decide ((1 : Int) = (lv : Int)), false, fun ρ h17 h13 h14 => ?_, fun ρ hl h17 h18 => ?_, ?_⟩
    · refine eB (anT (e1 h17 (isa_tup_t _)) ?_)
      cases hq : (((badL c m p ws).map lD).any fun z => PyData.eqv z (.tuple [.bool true])) with
      | false => exact anF (e2 h17 h13 (hin.trans (by rw [hq])))
      | true =>
        refine anT (e2 h17 h13 (hin.trans (by rw [hq]))) (e2 (e1 h17 rfl) h14 ?_)
        show eqD (.int _) (.int _) = _
        rw [ap_eqI, Bool.true_and]; rfl
    · have e : oLc (o1 iT (oV 17)) (own_law_5.map (·.2)) (gN 21) (o1 (isaD "bool") (oV 21)) (oV 21) ρ = some (.list [.bool true]) :=
        oLc_filter (fun _ : Nat => .bool true) (fun _ => .bool true) (fun _ => true) [0] (e1 h17 rfl) (by simp) fun x hx => ⟨rfl, (wipeD ρ (own_law_5.map (·.2))).set 21 (some (.bool true)), rfl, e1 (q21 ρ _ hl) (isa_bool_b _), fun z => q21 ρ _ hl⟩
      have ee : eqD (.list [.bool true]) (.list []) = some false := by decide +kernel
      cases hb1 : ((((badL c m p ws).map lD).any fun z => PyData.eqv z (.tuple [.bool true])) && decide ((1 : Int) = (lv : Int))) with
      | false => exact skip ρ (by rw [h18, hb1])
      | true => exact eB (anT (e1 (h18.trans (by rw [hb1])) rfl) (e2 e (eL rfl ap_mkL0) ee))
    · exact shno _ rfl (are_no k.hm k.hp.len).2.1
end
end LL
set_option Elab.async false
set_option linter.all false
set_option maxRecDepth 100000
set_option maxHeartbeats 4000000
set_option autoImplicit false
/-! The plain law: repeats. -/
namespace LL
open PySem PySem.Spec PyProof.Rows L2
def insH (K : List (List T)) (h : List T) : List (List T) := if h ∈ K then K else K ++ [h]
def repI (x : Ln) : Nat → List T → List (List T) → List (List T)
  | 0, _, K => K
  | n + 1, h, K => repI x n (x.did h) (insH K (x.did h))
def repL (m : Nat) (x : Ln) : List (List T) → List (List T) → List (List T)
  | [], K => K
  | h :: r, K => repL m x r (repI x (m + 1) h K)
def reps (m : Nat) : List (List T) → List Ln → List (List T)
  | hs, [] => hs
  | hs, x :: r => reps m (repL m x hs []) r
/-- of c cells, so deep -/
def Bd (c b : Nat) (K : List (List T)) : Prop := ∀ h ∈ K, h.length = c ∧ hdep h ≤ b
theorem foG {G : PyData → DEnv → Option DEnv} {S : DEnv → Option Out} {d : PyData} {ds : List PyData} {ρ ρ0 ρ1 : DEnv} {r : Option Out} (hG : G d ρ = some ρ0) (h : S ρ0 = some (.nx ρ1)) (h2 : forD (fun d ρ => (G d ρ).bind S) ds ρ1 = r) : forD (fun d ρ => (G d ρ).bind S) (d :: ds) ρ = r :=
  foC (by show (G d ρ).bind S = _; rw [hG]; exact h) h2
theorem insH_bd {c b : Nat} {K : List (List T)} (hK : Bd c b K) {h : List T} (hl : h.length = c) (hd : hdep h ≤ b) : Bd c b (insH K h) := fun y hy => by
  unfold insH at hy
  by_cases hm : h ∈ K
  · rw [if_pos hm] at hy; exact hK y hy
  · rw [if_neg hm] at hy
    rcases List.mem_append.mp hy with z | z
    · exact hK y z
    · rw [List.mem_singleton.mp z]; exact ⟨hl, hd⟩
theorem insH_len (K : List (List T)) (h : List T) : (insH K h).length ≤ K.length + 1 := by
  unfold insH
  by_cases hm : h ∈ K
  · rw [if_pos hm]; omega
  · rw [if_neg hm]; simp
theorem did_bd {c b : Nat} {x : Ln} (hx : x.in c) {h : List T} (hl : h.length = c) (hd : hdep h ≤ b) : (x.did h).length = c ∧ hdep (x.did h) ≤ b + 1 := ⟨(did_len _ _).trans hl, Nat.le_trans (did_dep x (hl ▸ hx)) (by omega)⟩
theorem repI_bd {c b : Nat} {x : Ln} (hx : x.in c) : ∀ (n : Nat) (h : List T) (K : List (List T)), h.length = c → hdep h + n ≤ b → Bd c b K → Bd c b (repI x n h K) ∧ (repI x n h K).length ≤ K.length + n
  | 0, _, K, _, _, hK => ⟨hK, Nat.le_refl _⟩
  | n + 1, h, K, hl, hd, hK => by
    obtain ⟨h1, h2⟩ := did_bd hx hl (Nat.le_refl _)
    obtain ⟨a, b'⟩ := repI_bd hx n (x.did h) (insH K (x.did h)) h1 (by omega) (insH_bd hK h1 (by omega))
    have := insH_len K (x.did h)
    refine ⟨a, ?_⟩
    show (repI x n (x.did h) (insH K (x.did h))).length ≤ _
    omega
theorem repL_bd {c b m : Nat} {x : Ln} (hx : x.in c) : ∀ (hs K : List (List T)), Bd c b hs → Bd c (b + (m + 1)) K → Bd c (b + (m + 1)) (repL m x hs K) ∧ (repL m x hs K).length ≤ K.length + hs.length * (m + 1)
  | [], K, _, hK => ⟨hK, by simp [repL]⟩
  | h :: r, K, hh, hK => by
    have q := hh h List.mem_cons_self
    obtain ⟨a, b1⟩ := repI_bd hx (m + 1) h K q.1 (show hdep h + (m + 1) ≤ b + (m + 1) by omega) hK
    obtain ⟨a', b2⟩ := repL_bd hx r _ (fun y hy => hh y (List.mem_cons_of_mem _ hy)) a
    refine ⟨a', ?_⟩
    show (repL m x r _).length ≤ _
    rw [List.length_cons, Nat.succ_mul]
    omega
/-- so deep and so many at most -/
def okR (m : Nat) : Nat → Nat → Nat → Bool
  | 0, b, n => decide (b ≤ 7) && decide (n ≤ 100)
  | k + 1, b, n => decide (b ≤ 7) && decide (n ≤ 100) && okR m k (b + (m + 1)) (n * (m + 1))
theorem okR_all : ∀ m ∈ [1, 2], ∀ k ∈ List.range 9, (decide (k * m ≤ 3) → okR m k 1 1 = true) := by decide +kernel
theorem inH {K : List (List T)} (hK : ∀ h ∈ K, hdep h ≤ 12) {h : List T} (hd : hdep h ≤ 12) : (fun a b => (inD a b).map (!·)) (hD h) (.list (K.map hD)) = some (!decide (h ∈ K)) := by
  have : inD (hD h) (.list (K.map hD)) = if SeqAt.shaped (hD h) = true ∧ SeqAt.shaped (.list (K.map hD)) = true then some ((K.map hD).any fun z => PyData.eqv z (hD h)) else none := rfl
  show (inD _ _).map _ = _
  rw [this, if_pos ⟨(hD_Sh hd).s, sh_list fun x hx => by
    obtain ⟨y, hy, rfl⟩ := List.mem_map.mp hx
    exact hD_Sh (hK y hy)⟩]
  show some (! _) = _
  congr 2
  rw [Bool.eq_iff_iff, List.any_eq_true, decide_eq_true_eq]
  constructor
  · rintro ⟨x, hx, h'⟩
    obtain ⟨y, hy, rfl⟩ := List.mem_map.mp hx
    rw [eqv_H, decide_eq_true_eq] at h'
    rw [← h']; exact hy
  · intro h'
    exact ⟨hD h, List.mem_map.mpr ⟨h, h', rfl⟩, by rw [eqv_H, decide_eq_true_eq]⟩
theorem catH (K : List (List T)) (h : List T) (hl : K.length ≤ 1000) : addD (.list (K.map hD)) (if h ∈ K then .list [] else .list [hD h]) = some (.list ((insH K h).map hD)) := by
  unfold insH
  by_cases hm : h ∈ K
  · rw [if_pos hm, if_pos hm]
    show (if (K.map hD).length + 0 ≤ sizeLine then some (PyData.list (K.map hD ++ [])) else none) = _
    rw [if_pos (by rw [sizeLine_eq, List.length_map]; omega), List.append_nil]
  · rw [if_neg hm, if_neg hm]
    show (if (K.map hD).length + 1 ≤ sizeLine then some (PyData.list (K.map hD ++ [hD h])) else none) = _
    rw [if_pos (by rw [sizeLine_eq, List.length_map]; omega)]
    simp
section
variable {c m : Nat} {fs : List Nat} {p : List Ln} {ws : List (Nat × T)}
theorem lrep_in (g : Gm c fs) {md pd fd : PyData} {x : Ln} (hx : x.in c) : ∀ (ks : List PyData) (h : List T) (K : List (List T)) (v7 : Option PyData), h.length = c → hdep h + ks.length ≤ 7 → Bd c 7 K → K.length + ks.length ≤ 1000 → ∃ h' v7',
    forD (fun d ρ => (gN 7 d ρ).bind (sThen (sA (oL (fun as => F_law_did (as ++ [])) (oCons (oV 6) (oCons (oV 4) oNil))) (gN 6))
      (sA (o2 addD (oV 5) (oIf (o2 (fun a b => (inD a b).map (!·)) (oV 6) (oV 5)) (oL mkL (oCons (oV 6) oNil)) (oL mkL oNil))) (gN 5)))) ks [some md, some pd, some (.int (m : Int)), some fd, some x.toD, some (.list (K.map hD)), some (hD h), v7] =
      some (.nx [some md, some pd, some (.int (m : Int)), some fd, some x.toD, some (.list ((repI x ks.length h K).map hD)), some (hD h'), v7'])
  | [], h, K, v7, _, _, _, _ => ⟨h, v7, rfl⟩
  | d :: ks, h, K, v7, hl, hd, hK, hn => by
    have hc := g.c3
    rw [List.length_cons] at hd hn
    obtain ⟨h1, h2⟩ := did_bd hx hl (Nat.le_refl _)
    have hi := insH_len K (x.did h)
    obtain ⟨h', w7, ih⟩ := lrep_in g (md := md) (pd := pd) (fd := fd) hx ks (x.did h) (insH K (x.did h)) (some d) h1 (by omega) (insH_bd hK h1 (by omega)) (by omega)
    refine ⟨h', w7, ?_⟩
    have e1' : F_law_did ([hD h, x.toD] ++ []) = some (hD (x.did h)) := F_law_did_ok h x (hl ▸ hx) (by omega)
    have en := inH (K := K) (fun y hy => by have := (hK y hy).2; omega) (h := x.did h) (by omega)
    have ec := catH K (x.did h) (by omega)
    refine foC (tN (aE (eL rfl e1') rfl) (aE (e2 rfl (b := if x.did h ∈ K then .list [] else .list [hD (x.did h)]) ?_ ec) rfl)) ih
    by_cases hm : x.did h ∈ K
    · rw [if_pos hm]
      exact eN (e2 rfl rfl (en.trans (by simp [hm]))) (eL rfl ap_mkL0)
    · rw [if_neg hm]
      exact eY (e2 rfl rfl (en.trans (by simp [hm]))) (eL rfl (ap_mkL1 _ rfl))
theorem rgm {ρ : DEnv} (hm : m ≤ 1000) (h : oV 2 ρ = some (.int (m : Int))) : ∃ ks : List PyData, o1 iR1 (o2 addD (oV 2) (oC (.int 1))) ρ = some ks ∧ ks.length = m + 1 := by
  refine ⟨rgD 0 ((m : Int) + 1), e1 (e2 h rfl rfl) ?_, ?_⟩
  · have e : iR1 (.int ((m : Int) + 1)) = if -16777216 ≤ (m : Int) + 1 ∧ (m : Int) + 1 ≤ 16777216 then some (rgD 0 ((m : Int) + 1)) else none := rfl
    exact e.trans (if_pos (by omega))
  · unfold rgD
    rw [List.length_map, List.length_range]
    omega
theorem lrep_mid (g : Gm c fs) (hm : m ≤ 2) {md pd fd : PyData} {x : Ln} (hx : x.in c) : ∀ (hs : List (List T)) (K : List (List T)) (b : Nat) (v6 v7 : Option PyData), Bd c b hs → b + (m + 1) ≤ 7 → Bd c (b + (m + 1)) K → K.length + hs.length * (m + 1) ≤ 1000 → ∃ v6' v7',
    forD (fun d ρ => (gN 6 d ρ).bind (sFor (o1 iR1 (o2 addD (oV 2) (oC (.int 1)))) (gN 7) (sThen (sA (oL (fun as => F_law_did (as ++ [])) (oCons (oV 6) (oCons (oV 4) oNil))) (gN 6))
      (sA (o2 addD (oV 5) (oIf (o2 (fun a b => (inD a b).map (!·)) (oV 6) (oV 5)) (oL mkL (oCons (oV 6) oNil)) (oL mkL oNil))) (gN 5))))) (hs.map hD) [some md, some pd, some (.int (m : Int)), some fd, some x.toD, some (.list (K.map hD)), v6, v7] =
      some (.nx [some md, some pd, some (.int (m : Int)), some fd, some x.toD, some (.list ((repL m x hs K).map hD)), v6', v7'])
  | [], K, b, v6, v7, _, _, _, _ => ⟨v6, v7, rfl⟩
  | h :: hs, K, b, v6, v7, hh, hb, hK, hn => by
    have q := hh h List.mem_cons_self
    rw [List.length_cons, Nat.succ_mul] at hn
    obtain ⟨ks, ek, hk⟩ := rgm (ρ := [some md, some pd, some (.int (m : Int)), some fd, some x.toD, some (.list (K.map hD)), some (hD h), v7]) (m := m) (by omega) rfl
    obtain ⟨h', u7, e⟩ := lrep_in g (m := m) (md := md) (pd := pd) (fd := fd) hx ks h K v7 q.1 (by omega) (fun y hy => by have := hK y hy; exact ⟨this.1, by omega⟩) (by omega)
    obtain ⟨a, b1⟩ := repI_bd hx (m + 1) h K q.1 (show hdep h + (m + 1) ≤ b + (m + 1) by omega) hK
    obtain ⟨w6, w7, ih⟩ := lrep_mid g hm (md := md) (pd := pd) (fd := fd) hx hs (repI x (m + 1) h K) b (some (hD h')) u7 (fun y hy => hh y (List.mem_cons_of_mem _ hy)) hb a (by omega)
    refine ⟨w6, w7, ?_⟩
    rw [hk] at e
    exact foG rfl (foE ek e) ih
theorem okR_0 {k b n : Nat} (h : okR m k b n = true) : b ≤ 7 ∧ n ≤ 100 := by
  cases k <;> simp [okR] at h <;> omega
theorem okR_s {k b n : Nat} (h : okR m (k + 1) b n = true) : okR m k (b + (m + 1)) (n * (m + 1)) = true := by
  simp only [okR, Bool.and_eq_true] at h
  exact h.2
theorem okR_mono : ∀ {k b n n' : Nat}, n' ≤ n → okR m k b n = true → okR m k b n' = true
  | 0, b, n, n', h, ho => by simp [okR] at ho ⊢; omega
  | k + 1, b, n, n', h, ho => by
    have h1 := okR_0 ho
    have h2 := okR_mono (Nat.mul_le_mul_right (m + 1) h) (okR_s ho)
    simp only [okR, Bool.and_eq_true, decide_eq_true_eq]
    exact ⟨⟨h1.1, by omega⟩, h2⟩
theorem lrep_out (g : Gm c fs) (hm : m ≤ 2) {md pd : PyData} : ∀ (r : List Ln) (hs : List (List T)) (b : Nat) (v4 v5 v6 v7 : Option PyData), In c r → Bd c b hs → okR m r.length b hs.length = true → ∃ v4' v5' v6' v7',
    forD (fun d ρ => (gN 4 d ρ).bind (sThen (sA (oL mkL oNil) (gN 5))
    (sThen (sFor (o1 iL (oV 3)) (gN 6) (sFor (o1 iR1 (o2 addD (oV 2) (oC (.int 1)))) (gN 7) (sThen (sA (oL (fun as => F_law_did (as ++ [])) (oCons (oV 6) (oCons (oV 4) oNil))) (gN 6))
    (sA (o2 addD (oV 5) (oIf (o2 (fun a b => (inD a b).map (!·)) (oV 6) (oV 5)) (oL mkL (oCons (oV 6) oNil)) (oL mkL oNil))) (gN 5)))))
    (sA (oV 5) (gN 3))))) (r.map Ln.toD) [some md, some pd, some (.int (m : Int)), some (.list (hs.map hD)), v4, v5, v6, v7] =
      some (.nx [some md, some pd, some (.int (m : Int)), some (.list ((reps m hs r).map hD)), v4', v5', v6', v7'])
  | [], hs, b, v4, v5, v6, v7, _, _, _ => ⟨v4, v5, v6, v7, rfl⟩
  | x :: r, hs, b, v4, v5, v6, v7, hr, hh, ho => by
    have hx := hr x List.mem_cons_self
    have o1' := okR_0 ho
    have o2' := okR_s ho
    have o3 := okR_0 o2'
    obtain ⟨u6, u7, e⟩ := lrep_mid g hm (md := md) (pd := pd) (fd := .list (hs.map hD)) hx hs [] b v6 v7 hh o3.1 (fun y hy => by cases hy) (by simp; omega)
    obtain ⟨a, b1⟩ := repL_bd (m := m) hx hs [] hh (fun y hy => by cases hy)
    simp only [List.length_nil, Nat.zero_add] at b1
    obtain ⟨w4, w5, w6, w7, ih⟩ := lrep_out g hm (md := md) (pd := pd) r (repL m x hs []) (b + (m + 1)) (some x.toD) (some (.list ((repL m x hs []).map hD))) u6 u7 (fun y hy => hr y (List.mem_cons_of_mem _ hy)) a (okR_mono b1 o2')
    exact ⟨w4, w5, w6, w7, foG rfl (tN (aE (eL rfl ap_mkL0) rfl) (tN (foE (e1 rfl rfl) e) (aE rfl rfl))) ih⟩
theorem h0_bd (c : Nat) : Bd c 1 [h0 c] := fun h hh => by
  rw [List.mem_singleton.mp hh]
  exact ⟨h0_len c, h0_dep c⟩
theorem F_law_repeats_ok (g : Gm c fs) (hm : m ≤ 2) (hp : In c p) (ho : okR m p.length 1 1 = true) : F_law_repeats [mD c fs, pD p, .int (m : Int)] = some (.list ((reps m [h0 c] p).map hD)) := by
  obtain ⟨v4, v5, v6, v7, e⟩ := lrep_out g hm (md := mD c fs) (pd := pD p) p [h0 c] 1 none none none none hp (h0_bd c) ho
  exact fn_rt rfl (tN (aE (eL (eC (firstE g rfl) rfl) (ap_mkL1 _ rfl)) rfl) (tN (foE (e1 rfl rfl) e) (rE rfl)))
theorem reps_bd : ∀ (r : List Ln) (hs : List (List T)) (b : Nat), In c r → Bd c b hs → okR m r.length b hs.length = true → Bd c 7 (reps m hs r) ∧ (reps m hs r).length ≤ 100
  | [], hs, b, _, hh, ho => by
    have := okR_0 ho
    exact ⟨fun y hy => ⟨(hh y hy).1, Nat.le_trans (hh y hy).2 this.1⟩, this.2⟩
  | x :: r, hs, b, hr, hh, ho => by
    obtain ⟨a, b1⟩ := repL_bd (m := m) (hr x List.mem_cons_self) hs [] hh (fun y hy => by cases hy)
    simp only [List.length_nil, Nat.zero_add] at b1
    exact reps_bd r _ _ (fun y hy => hr y (List.mem_cons_of_mem _ hy)) a (okR_mono b1 (okR_s ho))
/-! ### repeated_ends -/
def hK (h : List T) : PyData × PyData := (hD h, .bool true)
theorem nk_H {a b : List T} : nk (hD a) = nk (hD b) ↔ a = b := ⟨fun h => hD_inj (nk_inj _ _ (hD_kd a) (hD_kd b) h), fun h => by rw [h]⟩
theorem dput_H (K : List (List T)) (t : List T) : dputD (K.map hK) (hD t) (.bool true) = (insH K t).map hK := by
  have hg : (dgetD (K.map hK) (hD t)).isSome = decide (t ∈ K) := by
    unfold dgetD
    rw [Option.isSome_map, Bool.eq_iff_iff, List.find?_isSome, decide_eq_true_eq]
    constructor
    · rintro ⟨p, hp, h⟩
      obtain ⟨x, hx, rfl⟩ := List.mem_map.mp hp
      rw [decide_eq_true_eq] at h
      rw [← nk_H.mp h]
      exact hx
    · intro h
      exact ⟨hK t, List.mem_map.mpr ⟨t, h, rfl⟩, by simp [hK]⟩
  unfold dputD insH
  rw [hg]
  by_cases h : t ∈ K
  · rw [if_pos (by simpa using h), if_pos h, List.map_map]
    refine List.map_congr_left fun x _ => ?_
    show (if nk (hD x) = nk (hD t) then (hD x, PyData.bool true) else hK x) = hK x
    by_cases e : nk (hD x) = nk (hD t)
    · rw [if_pos e]; rfl
    · rw [if_neg e]
  · rw [if_neg (by simpa using h), if_neg h]
    simp [hK]
theorem keysH (K : List (List T)) : iKyD (.dict (K.map hK)) = some (K.map hD) := by
  have h : ((K.map hK).all fun p => isKd p.1) = true := by
    rw [List.all_eq_true]
    intro p hp
    obtain ⟨e, _, rfl⟩ := List.mem_map.mp hp
    exact hD_kd e
  show (if ((K.map hK).all fun p => isKd p.1) = true then _ else _) = _
  rw [if_pos h, List.map_map]; rfl
theorem xsE {ρ : DEnv} {M : MM} {i : Nat} {E : DEnv → Option PyData} {d : PyData} (h : E (viewM ρ M) = some d) (ho : okMb M d = true) (hn : noSlot M [i] = true) : xSet i E ρ M = some (.nx (ρ.set i (some d)) M) := by
  unfold xSet
  rw [h, Option.bind_some, if_pos ⟨ho, hn⟩]
theorem xdE {ρ : DEnv} {M : MM} {i : Nat} {Ek Ev : DEnv → Option PyData} {kvs : KVs} {kd vd : PyData} (hg : getD M i = some kvs) (hv : Ev (viewM ρ M) = some vd) (hk : Ek (viewM ρ M) = some kd) (h : isKd kd = true ∧ (nk kd).depth ≤ 8 ∧ notL vd = true ∧ kvs.length < sizeLine) :
    xDset i Ek Ev ρ M = some (.nx ρ (setM M i (.dict (dputD kvs kd vd)))) := by
  unfold xDset
  rw [hg, Option.bind_some, hv, Option.bind_some, hk, Option.bind_some, if_pos h]
theorem xfrE {ρ : DEnv} {M : MM} {i j : Nat} {kvs : KVs} (hg : getD M j = some kvs) (h : ((mdrop M j).all fun p => p.1 != i) = true) : xFrz i j ρ M = some (.nx (ρ.set i (some (.dict kvs))) (mdrop M j)) := by
  unfold xFrz
  rw [hg, Option.bind_some, if_pos h]
theorem xrE {ρ : DEnv} {M : MM} {E : DEnv → Option PyData} {d : PyData} (h : E (viewM ρ M) = some d) (ho : okMb M d = true) : xRt E ρ M = some (.rt d M) := by
  unfold xRt
  rw [h, Option.bind_some, if_pos ho]
theorem xrep_in (g : Gm c fs) {md pd fd : PyData} {x : Ln} (hx : x.in c) : ∀ (ks : List PyData) (h : List T) (K : List (List T)) (v7 : Option PyData), h.length = c → hdep h + ks.length ≤ 7 → Bd c 7 K → K.length + ks.length ≤ 1000 → ∃ h' v7',
    xForD (xThen (xSet 6 (oL (fun as => F_done (as ++ [])) (oCons (oV 6) (oCons (oV 4) oNil)))) (xDset 5 (oV 6) (oC (.bool true)))) [7] (gN 7) ks [some md, some pd, some (.int (m : Int)), some fd, some x.toD, none, some (hD h), v7] [(5, .own (.dict (K.map hK)))] =
      some (.nx [some md, some pd, some (.int (m : Int)), some fd, some x.toD, none, some (hD h'), v7'] [(5, .own (.dict ((repI x ks.length h K).map hK)))])
  | [], h, K, v7, _, _, _, _ => ⟨h, v7, rfl⟩
  | d :: ks, h, K, v7, hl, hd, hK', hn => by
    have hc := g.c3
    rw [List.length_cons] at hd hn
    have hin : x.in h.length := hl ▸ hx
    obtain ⟨h1, h2⟩ := did_bd hx hl (Nat.le_refl _)
    have hi := insH_len K (x.did h)
    obtain ⟨h', w7, ih⟩ := xrep_in g (md := md) (pd := pd) (fd := fd) hx ks (x.did h) (insH K (x.did h)) (some d) h1 (by omega) (insH_bd hK' h1 (by omega)) (by omega)
    refine ⟨h', w7, ?_⟩
    have e1' : F_done ([hD h, x.toD] ++ []) = some (hD (x.did h)) := F_done_ok h x hin (by omega) (by
      have := le_hdep (mk_in_did hin)
      omega)
    have hs : setM [(5, .own (.dict (K.map hK)))] 5 (.dict (dputD (K.map hK) (hD (x.did h)) (.bool true))) = [(5, .own (.dict ((insH K (x.did h)).map hK)))] := by
      rw [dput_H]; rfl
    have ed := xdE (ρ := [some md, some pd, some (.int (m : Int)), some fd, some x.toD, none, some (hD (x.did h)), some d]) (M := [(5, .own (.dict (K.map hK)))]) (i := 5) (Ek := oV 6) (Ev := oC (.bool true)) (kvs := K.map hK) (kd := hD (x.did h)) (vd := .bool true) rfl rfl rfl ⟨hD_kd _, Nat.le_trans (hD_nk (n := 7) (by omega)) (by omega), rfl, by rw [sizeLine_eq, List.length_map]; omega⟩
    rw [hs] at ed
    exact xfC rfl rfl (xtN (xsE (eL rfl e1') rfl rfl) ed) ih
theorem xrep_mid (g : Gm c fs) (hm : m ≤ 2) {md pd fd : PyData} {x : Ln} (hx : x.in c) : ∀ (hs : List (List T)) (K : List (List T)) (b : Nat) (v6 v7 : Option PyData), Bd c b hs → b + (m + 1) ≤ 7 → Bd c (b + (m + 1)) K → K.length + hs.length * (m + 1) ≤ 1000 → ∃ v6' v7',
    xForD (xFor (o1 iR1 (o2 addD (oV 2) (oC (.int 1)))) [7] (gN 7) (xThen (xSet 6 (oL (fun as => F_done (as ++ [])) (oCons (oV 6) (oCons (oV 4) oNil)))) (xDset 5 (oV 6) (oC (.bool true))))) [6] (gN 6) (hs.map hD) [some md, some pd, some (.int (m : Int)), some fd, some x.toD, none, v6, v7] [(5, .own (.dict (K.map hK)))] =
      some (.nx [some md, some pd, some (.int (m : Int)), some fd, some x.toD, none, v6', v7'] [(5, .own (.dict ((repL m x hs K).map hK)))])
  | [], K, b, v6, v7, _, _, _, _ => ⟨v6, v7, rfl⟩
  | h :: hs, K, b, v6, v7, hh, hb, hK', hn => by
    have q := hh h List.mem_cons_self
    rw [List.length_cons, Nat.succ_mul] at hn
    obtain ⟨ks, ek, hk⟩ := rgm (ρ := [some md, some pd, some (.int (m : Int)), some fd, some x.toD, none, some (hD h), v7]) (m := m) (by omega) rfl
    obtain ⟨h', u7, e⟩ := xrep_in g (m := m) (md := md) (pd := pd) (fd := fd) hx ks h K v7 q.1 (by omega) (fun y hy => by have := hK' y hy; exact ⟨this.1, by omega⟩) (by omega)
    obtain ⟨a, b1⟩ := repI_bd hx (m + 1) h K q.1 (show hdep h + (m + 1) ≤ b + (m + 1) by omega) hK'
    obtain ⟨w6, w7, ih⟩ := xrep_mid g hm (md := md) (pd := pd) (fd := fd) hx hs (repI x (m + 1) h K) b (some (hD h')) u7 (fun y hy => hh y (List.mem_cons_of_mem _ hy)) hb a (by omega)
    refine ⟨w6, w7, ?_⟩
    rw [hk] at e
    exact xfC rfl rfl (xfE ek e) ih
theorem xrep_out (g : Gm c fs) (hm : m ≤ 2) {md pd : PyData} : ∀ (r : List Ln) (hs : List (List T)) (b : Nat) (v4 v6 v7 : Option PyData), In c r → Bd c b hs → okR m r.length b hs.length = true → ∃ v4' v6' v7',
    xForD (xThen (xNewD 5)
    (xThen (xFor (o1 iKyD (oV 3)) [6] (gN 6) (xFor (o1 iR1 (o2 addD (oV 2) (oC (.int 1)))) [7] (gN 7) (xThen (xSet 6 (oL (fun as => F_done (as ++ [])) (oCons (oV 6) (oCons (oV 4) oNil))))
    (xDset 5 (oV 6) (oC (.bool true))))))
    (xThen (xIfLen 5 3000 xNo xNx)
    (xFrz 3 5)))) [4] (gN 4) (r.map Ln.toD) [some md, some pd, some (.int (m : Int)), some (.dict (hs.map hK)), v4, none, v6, v7] [] =
      some (.nx [some md, some pd, some (.int (m : Int)), some (.dict ((reps m hs r).map hK)), v4', none, v6', v7'] [])
  | [], hs, b, v4, v6, v7, _, _, _ => ⟨v4, v6, v7, rfl⟩
  | x :: r, hs, b, v4, v6, v7, hr, hh, ho => by
    have hx := hr x List.mem_cons_self
    have o1' := okR_0 ho
    have o2' := okR_s ho
    have o3 := okR_0 o2'
    obtain ⟨u6, u7, e⟩ := xrep_mid g hm (md := md) (pd := pd) (fd := .dict (hs.map hK)) hx hs [] b v6 v7 hh o3.1 (fun y hy => by cases hy) (by simp; omega)
    obtain ⟨a, b1⟩ := repL_bd (m := m) hx hs [] hh (fun y hy => by cases hy)
    simp only [List.length_nil, Nat.zero_add] at b1
    obtain ⟨w4, w6, w7, ih⟩ := xrep_out g hm (md := md) (pd := pd) r (repL m x hs []) (b + (m + 1)) (some x.toD) u6 u7 (fun y hy => hr y (List.mem_cons_of_mem _ hy)) a (okR_mono b1 o2')
    refine ⟨w4, w6, w7, xfC rfl rfl (xtN (xnD (by simp)) (xtN (xfE (e1 rfl (keysH hs)) e) (xtN (xlN rfl ?_ rfl) (xfrE rfl rfl)))) ih⟩
    rw [List.length_map]
    omega
theorem F_repeated_ends_ok (g : Gm c fs) (hm : m ≤ 2) (hp : In c p) (ho : okR m p.length 1 1 = true) : F_repeated_ends [mD c fs, pD p, .int (m : Int)] = some (.dict ((reps m [h0 c] p).map hK)) := by
  obtain ⟨v4, v6, v7, e⟩ := xrep_out g hm (md := mD c fs) (pd := pD p) p [h0 c] 1 none none none hp (h0_bd c) ho
  have ed : d1D (hD (h0 c)) (.bool true) = some (.dict ([h0 c].map hK)) := by
    unfold d1D
    rw [if_pos ⟨hD_kd _, Nat.le_trans (hD_nk (n := 7) (Nat.le_trans (h0_dep c) (by omega))) (by omega), rfl⟩]
    rfl
  exact fx_rt rfl (xtN (xsE (e2 (eL rfl (F_first_terms_ok g)) rfl ed) rfl rfl) (xtN (xfE (e1 rfl rfl) e) (xrE rfl rfl)))
theorem F_is_repeat_proof_ok (k : Wk c fs m p ws) (ho : okR m p.length 1 1 = true) : F_is_repeat_proof [mD c fs, pD p, .int (m : Int), wD ws] = some (.bool ((reps m [h0 c] p).all (ful ws))) := by
  have hm2 : m ≤ 2 := by rcases k.hm with h | h <;> omega
  have hb := (reps_bd p [h0 c] 1 (k.hp.in k.g) (h0_bd c) ho).1
  refine fn_rt rfl (tN (xE (eL rfl k.need)) (rE (eB (oQu_all hD (ful ws) (reps m [h0 c] p) (e1 (eL rfl (F_repeated_ends_ok k.g hm2 (k.hp.in k.g) ho)) (keysH _)) fun h hh => ⟨_, rfl, eL rfl (F_fulfilled_ok (fun w hw => ?_) ?_)⟩))))
  · rw [(hb h hh).1]; exact k.w w hw
  · have := (hb h hh).2
    omega
/-! ### what the law asks of them -/
variable {ρ : DEnv}
theorem deepE {hs : List (List T)} (h1 : 1 ≤ c) (hb : Bd c 7 hs) (hc : c ≤ 3) (hn : hs.length ≤ 100) (hl : ρ.length = 23) (h10 : oV 10 ρ = some (.list (hs.map hD))) :
    o2 neD (oLc (o1 iL (oV 10)) (own_law_6.map (·.2)) (gN 6) (o2 gtD (o1 maxD (oLc (o1 iT (oV 6)) (own_law_7.map (·.2)) (gN 22) oYes (oL (fun as => (F_law_deep 12) (as ++ [])) (oCons (oV 22) oNil)))) (oC (.int 8))) (oC (.int 1))) (oL mkL oNil) ρ = some false := by
  have e := oLc_filter (I := o1 iL (oV 10)) (vs := own_law_6.map (·.2)) (G := gN 6) (T := o2 gtD (o1 maxD (oLc (o1 iT (oV 6)) (own_law_7.map (·.2)) (gN 22) oYes (oL (fun as => (F_law_deep 12) (as ++ [])) (oCons (oV 22) oNil)))) (oC (.int 8))) (E := oC (.int 1)) (ρ := ρ) hD (fun _ => .int 1) (fun _ => false) hs (e1 h10 rfl) (by omega) fun h hh => ⟨rfl, (wipeD ρ (own_law_6.map (·.2))).set 6 (some (hD h)), rfl, e2 (maxE (h := h) (set_oV (by show 6 < (ρ.set 6 none).length; rw [List.length_set, hl]; decide)) (by
      show 22 < (((ρ.set 6 none).set 6 _).set 22 none).length
      rw [List.length_set, List.length_set, List.length_set, hl]; decide) (ne_of_len h1 (hb h hh).1) (by have := (hb h hh).2; omega) (by have := (hb h hh).1; omega)) rfl (by
      have := (hb h hh).2
      show some (decide ((8 : Int) < (hdep h : Int))) = some false
      simp; omega), fun z => by cases z⟩
  refine e2 e (eL rfl ap_mkL0) ?_
  have : hs.filter (fun _ => false) = [] := List.filter_eq_nil_iff.mpr fun _ _ => by simp
  rw [this]
  exact (by decide +kernel : neD (.list []) (.list []) = some false)
theorem dueE {hs : List (List T)} (hw : ∀ w ∈ ws, w.1 < c ∧ w.2.dep ≤ 8) (hwl : ws.length ≤ 3) (hb : Bd c 7 hs) (hn : hs.length ≤ 100) (hl : ρ.length = 23) (h10 : oV 10 ρ = some (.list (hs.map hD))) (h5 : oV 5 ρ = some (wD ws)) :
    oB (o2 eqD (oLc (o1 iL (oV 10)) (own_law_8.map (·.2)) (gN 6) (o2 neD (oLc (o1 iT (oV 5)) (own_law_9.map (·.2)) (gTupD 2 (gConsD (gN 7) (gConsD (gN 22) gNilD))) (o2 neD (o2 ixD (oV 6) (oV 7)) (oV 22)) (oC (.int 1))) (oL mkL oNil)) (oV 6)) (oL mkL oNil)) ρ = some (.bool (hs.all (ful ws))) := by
  have e := oLc_filter (I := o1 iL (oV 10)) (vs := own_law_8.map (·.2)) (G := gN 6) (T := o2 neD (oLc (o1 iT (oV 5)) (own_law_9.map (·.2)) (gTupD 2 (gConsD (gN 7) (gConsD (gN 22) gNilD))) (o2 neD (o2 ixD (oV 6) (oV 7)) (oV 22)) (oC (.int 1))) (oL mkL oNil)) (E := oV 6) (ρ := ρ) hD hD (fun h => !ful ws h) hs (e1 h10 rfl) (by omega) fun h hh => by
    have hlh := (hb h hh).1
    have hdh := (hb h hh).2
    have q6 : oV 6 ((wipeD ρ (own_law_8.map (·.2))).set 6 (some (hD h))) = some (hD h) := set_oV (by show 6 < (ρ.set 6 none).length; rw [List.length_set, hl]; decide)
    refine ⟨rfl, (wipeD ρ (own_law_8.map (·.2))).set 6 (some (hD h)), rfl, ?_, fun _ => q6⟩
    have ei := oLc_filter (I := o1 iT (oV 5)) (vs := own_law_9.map (·.2)) (G := gTupD 2 (gConsD (gN 7) (gConsD (gN 22) gNilD))) (T := o2 neD (o2 ixD (oV 6) (oV 7)) (oV 22)) (E := oC (.int 1)) (ρ := (wipeD ρ (own_law_8.map (·.2))).set 6 (some (hD h))) wiT (fun _ => .int 1) (fun w => !decide (gt h w.1 = w.2)) ws (e1 (by
        rw [oV_ne (by decide)]
        show oV 5 (ρ.set 6 none) = _
        rw [oV_ne (by decide)]; exact h5) rfl) (by omega) fun w hx => by
      obtain ⟨w1, w2⟩ := hw w hx
      have hlw : w.1 < h.length := by omega
      have h3 := gt_dep hlw
      refine ⟨rfl, (((wipeD ((wipeD ρ (own_law_8.map (·.2))).set 6 (some (hD h))) (own_law_9.map (·.2))).set 7 (some (iD w.1))).set 22 (some w.2.toD)), rfl, e2 (b := w.2.toD) (e2 (b := iD w.1) ?_ ?_ (hD_get hlw)) ?_ ((ne_sh (toD_sh (by omega)) (toD_sh (by omega))).trans (by rw [eqv_T])), fun _ => rfl⟩
      · rw [oV_ne (by decide), oV_ne (by decide)]
        show oV 6 (((((wipeD ρ (own_law_8.map (·.2))).set 6 (some (hD h)))).set 22 none).set 7 none) = _
        rw [oV_ne (by decide), oV_ne (by decide)]
        exact q6
      · rw [oV_ne (by decide)]
        refine set_oV ?_
        show 7 < (((((ρ.set 6 none).set 6 _)).set 22 none).set 7 none).length
        simp [hl]
      · refine set_oV ?_
        show 22 < ((((((ρ.set 6 none).set 6 _)).set 22 none).set 7 none).set 7 _).length
        simp [hl]
    refine e2 ei (eL rfl ap_mkL0) ?_
    unfold neD
    rw [if_pos ⟨sh_list fun x hx => by
      obtain ⟨_, _, rfl⟩ := List.mem_map.mp hx
      exact Sh.int _, sh_list fun x hx => by cases hx⟩]
    congr 2
    unfold ful
    rw [List.all_eq_not_any_not]
    cases hf : (ws.filter fun w => !decide (gt h w.1 = w.2)) with
    | nil =>
      have : ws.any (fun w => !decide (gt h w.1 = w.2)) = false := by
        rw [List.any_eq_false]
        intro x hx hq
        have : x ∈ ws.filter fun w => !decide (gt h w.1 = w.2) := List.mem_filter.mpr ⟨hx, hq⟩
        rw [hf] at this
        cases this
      rw [this]
      rfl
    | cons x r =>
      have hx : x ∈ ws.filter fun w => !decide (gt h w.1 = w.2) := by rw [hf]; exact List.mem_cons_self
      have : ws.any (fun w => !decide (gt h w.1 = w.2)) = true := List.any_eq_true.mpr ⟨x, List.mem_filter.mp hx⟩
      rw [this]
      simp [PyData.eqv, PyData.eqvAll]
  refine eB (e2 e (eL rfl ap_mkL0) ?_)
  unfold eqD
  rw [if_pos ⟨sh_list fun x hx => by
    obtain ⟨h, hh, rfl⟩ := List.mem_map.mp hx
    exact hD_Sh (by have := (hb h (List.mem_filter.mp hh).1).2; omega), sh_list fun x hx => by cases hx⟩]
  congr 1
  cases hf : hs.filter fun h => !ful ws h with
  | nil =>
    have : hs.all (ful ws) = true := by
      rw [List.all_eq_true]
      intro x hx
      cases hq : ful ws x with
      | true => rfl
      | false =>
        have : x ∈ hs.filter fun h => !ful ws h := List.mem_filter.mpr ⟨hx, by rw [hq]; rfl⟩
        rw [hf] at this
        cases this
    rw [this]; rfl
  | cons x r =>
    have hx : x ∈ hs.filter fun h => !ful ws h := by rw [hf]; exact List.mem_cons_self
    obtain ⟨h1, h2⟩ := List.mem_filter.mp hx
    have : hs.all (ful ws) = false := by
      rw [List.all_eq_false]
      exact ⟨x, h1, by simpa using h2⟩
    rw [this]
    simp [PyData.eqv, PyData.eqvAll]
end
end LL
set_option Elab.async false
set_option linter.all false
set_option maxRecDepth 100000
set_option maxHeartbeats 4000000
set_option autoImplicit false
/-! The plain law: what is drawn. -/
namespace LL
open PySem PySem.Spec PyProof.Rows L2
section
variable {ir : Nat} {ρ : DEnv} {Φ : PyData → MM → Prop}
theorem rowish_ne {l : List PyData} (h : ∀ kvs r, l ≠ .dict kvs :: r) : rowish (.list l) = false := by
  cases hr : rowish (.list l) with
  | false => rfl
  | true =>
    exfalso
    unfold rowish at hr
    split at hr
    · rename_i e
      cases e
      exact h _ _ rfl
    · cases hr
theorem okT {M : MM} {d : PyData} (h : notL d = true) : okM M d := .inl h
theorem okL {d : PyData} (h : rowish d = false) : okM [(ir, .row)] d := .inr ⟨rfl, h⟩
theorem c_taken {E : DEnv → Option PyData} {k : Int} (h : E ρ = some (.int k)) (h1 : 1 ≤ k) (h2 : k < 1073741824) (q : ∀ i : Nat, (i : Int) < k → Φ (.int i) [(ir, .row)]) : wCallR ir FF_law_taken (oCons E oNil) ρ [(ir, .row)] Φ :=
  ⟨rfl, [.int k], eC h rfl, fun d hd => by rw [List.mem_singleton.mp hd]; exact okT rfl, k, rfl, h1, h2, fun i hi hk => by
    obtain ⟨n, rfl⟩ := Int.eq_ofNat_of_zero_le hi
    exact q n hk⟩
theorem lcM_draw {T : EM Bool} {E : EM PyData} {vs : List Nat} {G : PyData → DEnv → Option DEnv} {ρw : DEnv} {Φ : List PyData → MM → Prop} (Q : PyData → Prop) (hT : T = wYes) (hn : ∀ x, Q x → notL x = true) : ∀ (ds acc : List PyData),
    (∀ d ∈ ds, ∃ ρ1, G d ρw = some ρ1 ∧ ∀ Ψ : PyData → MM → Prop, (∀ x, Q x → Ψ x [(ir, .row)]) → E ρ1 [(ir, .row)] Ψ) → acc.length + ds.length < 16777216 → (∀ l, l.length = ds.length → (∀ x ∈ l, Q x) → Φ (acc ++ l) [(ir, .row)]) → lcM ir T E vs G ρw ds acc Φ
  | [], acc, _, _, q => by
    have := q [] rfl (fun x hx => by cases hx)
    rw [List.append_nil] at this
    exact this
  | d :: ds, acc, H, hl, q => by
    obtain ⟨ρ1, h1, h2⟩ := H d List.mem_cons_self
    rw [List.length_cons] at hl
    subst hT
    refine ⟨ρ1, h1, rfl, ?_⟩
    show E ρ1 _ _
    refine h2 _ fun x hx => ⟨rfl, hn x hx, by rw [sizeLine_eq]; omega, ?_⟩
    refine lcM_draw Q rfl hn ds (acc ++ [x]) (fun y hy => H y (List.mem_cons_of_mem _ hy)) (by rw [List.length_append, List.length_singleton]; omega) fun l hl' hq => ?_
    have := q (x :: l) (by rw [List.length_cons, List.length_cons, hl']) (fun y hy => by
      rcases List.mem_cons.mp hy with rfl | hy
      · exact hx
      · exact hq y hy)
    rw [List.append_assoc]
    exact this
theorem lcM_sub {α : Type} {T : EM Bool} {E : EM PyData} {vs : List Nat} {G : PyData → DEnv → Option DEnv} {ρw : DEnv} {Φ : List PyData → MM → Prop} (g h : α → PyData) (must : α → Prop) : ∀ (xs : List α) (acc : List PyData),
    (∀ x ∈ xs, notL (h x) = true ∧ ∃ ρ1, G (g x) ρw = some ρ1 ∧ (∀ Ψ : Bool → MM → Prop, (∀ b, (must x → b = true) → Ψ b [(ir, .row)]) → T ρ1 [(ir, .row)] Ψ) ∧ ∀ Ψ : PyData → MM → Prop, Ψ (h x) [(ir, .row)] → E ρ1 [(ir, .row)] Ψ) → acc.length + xs.length < 16777216 →
    (∀ ys : List α, ys.Sublist xs → (∀ x ∈ xs, must x → x ∈ ys) → Φ (acc ++ ys.map h) [(ir, .row)]) → lcM ir T E vs G ρw (xs.map g) acc Φ
  | [], acc, _, _, q => by
    have := q [] (List.Sublist.refl _) (fun x hx => by cases hx)
    rw [List.map_nil, List.append_nil] at this
    exact this
  | x :: xs, acc, H, hl, q => by
    obtain ⟨hn, ρ1, h1, h2, h3⟩ := H x List.mem_cons_self
    rw [List.length_cons] at hl
    refine ⟨ρ1, h1, h2 _ fun b hb => ⟨rfl, ?_⟩⟩
    cases b with
    | true =>
      rw [if_pos rfl]
      refine h3 _ ⟨rfl, hn, by rw [sizeLine_eq]; omega, ?_⟩
      refine lcM_sub g h must xs (acc ++ [h x]) (fun y hy => H y (List.mem_cons_of_mem _ hy)) (by rw [List.length_append, List.length_singleton]; omega) fun ys hs hm => ?_
      have := q (x :: ys) (hs.cons_cons x) (fun y hy hmy => by
        rcases List.mem_cons.mp hy with rfl | hy
        · exact List.mem_cons_self
        · exact List.mem_cons_of_mem _ (hm y hy hmy))
      rw [List.append_assoc]
      exact this
    | false =>
      rw [if_neg (by decide)]
      refine lcM_sub g h must xs acc (fun y hy => H y (List.mem_cons_of_mem _ hy)) (by omega) fun ys hs hm => q ys (hs.cons x) fun y hy hmy => ?_
      rcases List.mem_cons.mp hy with rfl | hy
      · have := hb hmy
        cases this
      · exact hm y hy hmy
theorem list_of {α : Type} {g : α → PyData} {P : α → Prop} : ∀ {l : List PyData}, (∀ x ∈ l, ∃ a, P a ∧ x = g a) → ∃ as : List α, l = as.map g ∧ ∀ a ∈ as, P a
  | [], _ => ⟨[], rfl, fun a h => by cases h⟩
  | x :: l, h => by
    obtain ⟨a, h1, rfl⟩ := h x List.mem_cons_self
    obtain ⟨as, rfl, h2⟩ := list_of (fun y hy => h y (List.mem_cons_of_mem _ hy))
    exact ⟨a :: as, rfl, fun b hb => by
      rcases List.mem_cons.mp hb with rfl | hb
      · exact h1
      · exact h2 b hb⟩
end
section
variable {ρ : DEnv} {M : MM} {Φ : OutM → Prop} {Ψ : PyData → MM → Prop} {Θ : List PyData → MM → Prop} {Υ : Bool → MM → Prop}
theorem q_then {S T : SM} (h : S ρ M fun o => match o with
  | .nx ρ' M' => T ρ' M' Φ
  | .rt d M' => Φ (.rt d M')) : wThen S T ρ M Φ := h
theorem q_par {i j : Nat} {A B : EM PyData} (h : A ρ M fun a M1 => B ρ M1 fun b M2 => (∀ p ∈ M2, p.1 ≠ i ∧ p.1 ≠ j) ∧ Φ (.nx ((ρ.set i (some a)).set j (some b)) M2)) : wPar i j A B ρ M Φ := h
theorem q_add {n : Int} {E : EM PyData} (h : E ρ M fun d M' => ∃ i, d = .int i ∧ Ψ (.int (n + i)) M') : wAddC n E ρ M Ψ := h
theorem q_gt {n : Int} {E : EM PyData} (h : E ρ M fun d M' => ∃ i, d = .int i ∧ Υ (decide (n < i)) M') : wGtC n E ρ M Υ := h
theorem q_eq {n : Int} {E : EM PyData} (h : E ρ M fun d M' => ∃ i, d = .int i ∧ Υ (decide (i = n)) M') : wEqC n E ρ M Υ := h
theorem q_or {A B : EM Bool} (h : A ρ M fun b M1 => if b = true then Υ true M1 else B ρ M1 Υ) : wOr A B ρ M Υ := h
theorem q_if {C : EM Bool} {S T : SM} (h : C ρ M fun b M' => if b = true then S ρ M' Φ else T ρ M' Φ) : wIf C S T ρ M Φ := h
theorem q_nx (h : Φ (.nx ρ M)) : wNx ρ M Φ := h
theorem q_rt {E : EM PyData} (h : E ρ M fun d M' => Φ (.rt d M')) : wRt E ρ M Φ := h
theorem q_tup {Es : EM (List PyData)} (h : Es ρ M fun ds M' => ∃ d, mkT ds = some d ∧ Ψ d M') : wTup Es ρ M Ψ := h
theorem q_cons {E : EM PyData} {Es : EM (List PyData)} (h : E ρ M fun d M1 => Es ρ M1 fun ds M2 => Θ (d :: ds) M2) : wCons E Es ρ M Θ := h
theorem q_nil (h : Θ [] M) : wNil ρ M Θ := h
theorem q_tuple {E : EM PyData} (h : E ρ M fun d M' => ∃ ds, d = .list ds ∧ Ψ (.tuple ds) M') : wTuple E ρ M Ψ := h
theorem q_lc {ir : Nat} {I : EM (List PyData)} {vs : List Nat} {G : PyData → DEnv → Option DEnv} {T : EM Bool} {E : EM PyData} (hv : ir ∉ vs) (h : I ρ M fun ds M1 => M1 = [(ir, .row)] ∧ lcM ir T E vs G (wipeD ρ vs) ds [] fun l M2 => Ψ (.list l) M2) : wLc ir I vs G T E ρ M Ψ := ⟨hv, h⟩
theorem q_p {E : DEnv → Option PyData} {d : PyData} (h : E (viewM ρ M) = some d) (o : okM M d) (q : Ψ d M) : wP E ρ M Ψ := ⟨d, h, o, q⟩
theorem q_t {E : DEnv → Option Bool} {b : Bool} (h : E (viewM ρ M) = some b) (q : Υ b M) : wT E ρ M Υ := ⟨b, h, q⟩
theorem q_i {I : DEnv → Option (List PyData)} {ds : List PyData} (h : I (viewM ρ M) = some ds) (q : Θ ds M) : wI I ρ M Θ := ⟨ds, h, q⟩
theorem q_r1 {E : EM PyData} (h : E ρ M fun d M' => ∃ n, d = .int n ∧ -16777216 ≤ n ∧ n ≤ 16777216 ∧ Θ (rgD 0 n) M') : wR1 E ρ M Θ := h
theorem q_set {i : Nat} {E : EM PyData} (h : E ρ M fun d M' => (∀ p ∈ M', p.1 ≠ i) ∧ Φ (.nx (ρ.set i (some d)) M')) : wSet i E ρ M Φ := h
theorem q_asg {E : EM PyData} {vs : List Nat} {G : PyData → DEnv → Option DEnv} (h : E ρ M fun d M' => (∀ p ∈ M', p.1 ∉ vs) ∧ ∃ ρ', G d ρ = some ρ' ∧ Φ (.nx ρ' M')) : wAsg E vs G ρ M Φ := h
theorem q_idx {A : DEnv → Option PyData} {E : EM PyData} {da : PyData} (h : A (viewM ρ M) = some da) (o : okM M da) (q : E ρ M fun d M' => ∃ x, ixD da d = some x ∧ notL x = true ∧ Ψ x M') : wIdx A E ρ M Ψ := ⟨da, h, o, q⟩
theorem q_callR {ir : Nat} {FF : List PyData → (PyData → Prop) → Prop} {Es : DEnv → Option (List PyData)} {ds : List PyData} (h : Es ρ = some ds) (o : ∀ d ∈ ds, okM [(ir, .row)] d) (q : FF ds fun d => Ψ d [(ir, .row)]) : wCallR ir FF Es ρ [(ir, .row)] Ψ := ⟨rfl, ds, h, o, q⟩
theorem q_callP {FF : List PyData → Option PyData} {Es : EM (List PyData)} (h : Es ρ M fun ds M' => ∃ d, FF ds = some d ∧ okM M' d ∧ Ψ d M') : wCallP FF Es ρ M Ψ := h
theorem ne_row {ir i : Nat} (h : ir ≠ i) : ∀ p ∈ [((ir, .row) : Nat × MEnt)], p.1 ≠ i := fun p hp => by rw [List.mem_singleton.mp hp]; exact h
end
/-! ### _law_machine -/
theorem FF_machine_ok {Φ : PyData → Prop} (q : ∀ c fs, Gm c fs → Φ (mD c fs)) : FF_law_machine [] Φ := by
  refine ⟨rfl, ?_⟩
  refine q_then (q_par (q_add (c_taken rfl (by decide) (by decide) fun i hi => ⟨_, rfl, ?_⟩)))
  refine q_add (c_taken rfl (by decide) (by decide) fun j hj => ⟨_, rfl, fun p hp => ?_, ?_⟩)
  · rw [List.mem_singleton.mp hp]
    exact ⟨by decide, by decide⟩
  · refine q_rt (q_tup (q_cons (q_p rfl (okT rfl) (q_cons (q_tuple (q_lc (by decide) ?_))))))
    have e : o1 iR1 (oV 2) [none, some (.int (1 + (i : Int))), some (.int (1 + (j : Int))), none] = some (rgD 0 (1 + (j : Int))) := by
      refine e1 rfl ?_
      have : iR1 (.int (1 + (j : Int))) = if -16777216 ≤ 1 + (j : Int) ∧ 1 + (j : Int) ≤ 16777216 then some (rgD 0 (1 + (j : Int))) else none := rfl
      exact this.trans (if_pos (by omega))
    have hrl : (rgD 0 (1 + (j : Int))).length = 1 + j := by
      unfold rgD
      rw [List.length_map, List.length_range]
      omega
    refine q_i e ⟨rfl, ?_⟩
    refine lcM_draw (fun x => ∃ r : Nat, (r = 1 ∨ r = 2) ∧ x = .int (r : Int)) rfl (fun x ⟨r, _, hx⟩ => by rw [hx]; rfl) _ [] (fun d _ => ⟨_, rfl, fun Ψ hΨ => q_add (c_taken rfl (by decide) (by decide) fun k hk => ⟨_, rfl, ?_⟩)⟩) (by rw [hrl]; simp; omega) fun l hl hq => ?_
    · have : (1 : Int) + (k : Int) = ((1 + k : Nat) : Int) := by omega
      rw [this]
      exact hΨ _ ⟨1 + k, by omega, rfl⟩
    · obtain ⟨fs, rfl, hfs⟩ := list_of hq
      refine ⟨_, rfl, q_nil ⟨_, ap_mkT2 _ _ rfl rfl, _, rfl, ?_⟩⟩
      have hlen : fs.length = 1 + j := by rw [← hrl, ← hl, List.length_map]
      have hj' : j = 0 ∨ j = 1 := by omega
      have hf : fs ∈ fss := by
        match fs, hlen, hfs with
        | [], hlen, _ => simp at hlen; omega
        | [a], _, hfs =>
          rcases hfs a (by simp) with rfl | rfl <;> simp [fss]
        | [a, b], _, hfs =>
          rcases hfs a (by simp) with rfl | rfl <;> rcases hfs b (by simp) with rfl | rfl <;> simp [fss]
        | _ :: _ :: _ :: _, hlen, _ => simp at hlen; omega
      have hc : (1 : Int) + (i : Int) = ((1 + i : Nat) : Int) := by omega
      have := q (1 + i) fs ⟨by omega, by omega, hf⟩
      rw [hc]
      exact this
/-! ### _law_pick -/
theorem FF_pick_ok {xs : List PyData} {Φ : PyData → Prop} (h1 : 1 ≤ xs.length) (h2 : xs.length ≤ 10000) (hr : rowish (.list xs) = false) (q : ∀ x ∈ xs, notL x = true ∧ Φ x) : FF_law_pick [.list xs] Φ := by
  refine ⟨rfl, ?_⟩
  refine q_rt (q_idx (da := .list xs) rfl (okL hr) (c_taken (k := (xs.length : Int)) rfl (by omega) (by omega) fun i hi => ?_))
  have hi' : i < xs.length := by omega
  obtain ⟨a, b⟩ := q xs[i] (List.getElem_mem hi')
  exact ⟨xs[i], atI_nat (List.getElem?_eq_getElem hi'), a, _, rfl, b⟩
section
variable {c : Nat} {fs : List Nat}
theorem ne_dict {α : Type} {h : α → PyData} (hh : ∀ a kvs, h a ≠ .dict kvs) {as : List α} : ∀ kvs r, as.map h ≠ .dict kvs :: r := fun kvs r z => by
  cases as with
  | nil => cases z
  | cons a as =>
    rw [List.map_cons] at z
    exact hh a kvs (List.cons.inj z).1
theorem ln_nd (a : Ln) (kvs : KVs) : a.toD ≠ .dict kvs := fun z => by cases a <;> cases z
/-! ### _law_program -/
theorem FF_program_ok (g : Gm c fs) {k : Nat} (hk : k ≤ 10) {Φ : PyData → Prop} (q : ∀ p : List Ln, (∀ l ∈ p, l ∈ lines c fs) → p.length ≤ k → Φ (pD p)) : FF_law_program [mD c fs, .int (k : Int)] Φ := by
  refine ⟨rfl, ?_⟩
  have hr : rowish (.list ((lines c fs).map Ln.toD)) = false := rowish_ne (ne_dict ln_nd)
  refine q_then (q_set (q_p (eL rfl (F_law_every_line_ok g)) (okL hr) ⟨ne_row (by decide), ?_⟩))
  refine q_rt (q_tuple (q_lc (by decide) (q_r1 (c_taken (k := (k : Int) + 1) rfl (by omega) (by omega) fun i hi => ⟨(i : Int), rfl, by omega, by omega, rfl, ?_⟩))))
  have hrl : (rgD 0 (i : Int)).length = i := by
    unfold rgD
    rw [List.length_map, List.length_range]
    omega
  refine lcM_draw (fun x => ∃ l : Ln, l ∈ lines c fs ∧ x = l.toD) rfl (fun x ⟨l, _, hx⟩ => by rw [hx]; exact l.notL) _ [] (fun d _ => ⟨_, rfl, fun Ψ hΨ => q_callR rfl (fun d hd => by rw [List.mem_singleton.mp hd]; exact okL hr) (FF_pick_ok (by rw [List.length_map]; exact (lines_len g).1) (by rw [List.length_map]; have := (lines_len g).2; omega) hr fun x hx => ?_)⟩) (by rw [hrl]; simp; omega) fun l hl hq => ?_
  · obtain ⟨y, hy, rfl⟩ := List.mem_map.mp hx
    exact ⟨y.notL, hΨ _ ⟨y, hy, rfl⟩⟩
  · obtain ⟨p, rfl, hp⟩ := list_of hq
    refine ⟨_, rfl, _, rfl, ?_⟩
    exact q p hp (by rw [hrl, List.length_map] at hl; omega)
end
end LL
set_option Elab.async false
set_option linter.all false
set_option maxRecDepth 100000
set_option maxHeartbeats 4000000
set_option autoImplicit false
/-! The plain law: the wishes that are drawn, each line twice. -/
namespace LL
open PySem PySem.Spec PyProof.Rows L2
section
variable {c : Nat} {fs : List Nat}
/-- what cells hold that wishes may name -/
structure Hg (c : Nat) (fs : List Nat) (h : List T) : Prop where
  len : h.length = c
  ok : ∀ t ∈ h, t.ok c fs
  dep : hdep h ≤ 8
def wsOf (h : List T) (ys : List Nat) : List (Nat × T) := ys.map fun i => (i, gt h i)
theorem gt_mem {h : List T} {i : Nat} (hi : i < h.length) : gt h i ∈ h := by
  simp only [gt, List.getD, List.getElem?_eq_getElem hi, Option.getD_some]
  exact List.getElem_mem hi
theorem wsOf_ok (g : Gm c fs) {h : List T} (hh : Hg c fs h) {ys : List Nat} (hs : ys.Sublist (List.range c)) (hn : ys ≠ []) : Wg c fs (wsOf h ys) := by
  have hc := g.c3
  refine ⟨fun z => hn (List.map_eq_nil_iff.mp z), ?_, fun w hw => ?_, ?_⟩
  · have := hs.length_le
    rw [List.length_range] at this
    unfold wsOf
    rw [List.length_map]; omega
  · obtain ⟨i, hi, rfl⟩ := List.mem_map.mp hw
    have hi' : i < c := List.mem_range.mp (hs.subset hi)
    have hi2 : i < h.length := by rw [hh.len]; exact hi'
    exact ⟨hi', hh.ok _ (gt_mem hi2), Nat.le_trans (gt_dep hi2) hh.dep⟩
  · unfold wsOf
    rw [List.pairwise_map]
    exact List.Pairwise.sublist hs List.pairwise_lt_range
theorem wi_nd (a : Nat × T) (kvs : KVs) : wiT a ≠ .dict kvs := fun z => by cases z
theorem tm_Hg (g : Gm c fs) {q : List Ln} (hq : ∀ l ∈ q, l ∈ lines c fs) (ht : tm 7 (h0 c) q) : Hg c fs (runs (h0 c) q) :=
  ⟨by rw [runs_len, h0_len], runs_ok g q (h0 c) hq (h0_len c) (h0_ok c fs), Nat.le_trans (tm_end ht (Nat.le_trans (h0_dep c) (by omega))) (by omega)⟩
theorem kp_nil : ∀ (q : List Ln) (k : Nat), kp [] k q = q
  | [], _ => rfl
  | x :: q, k => by
    show (if k ∈ [] then kp [] (k + 1) q else x :: kp [] (k + 1) q) = _
    rw [if_neg (by simp), kp_nil q]
theorem ran_nil (g : Gm c fs) {q : List Ln} (hq : In c q) (ht : tm 8 (h0 c) q) : F_law_ran [mD c fs, pD q, .tuple []] = some (hD (runs (h0 c) q)) := by
  have := F_law_ran_ok g hq [] (by rw [kp_nil]; exact ht)
  rw [kp_nil] at this
  exact this
theorem wish_row {ir : Nat} {Φ : List PyData → MM → Prop} {ρw : DEnv} {C : EM Bool} {E : EM PyData} {vs : List Nat} {j : Nat} (g : Gm c fs) {h : List T} (hh : Hg c fs h) (must : Nat → Prop)
    (hT : ∀ i, i < c → ∀ Ψ : Bool → MM → Prop, (∀ b, (must i → b = true) → Ψ b [(ir, .row)]) → C (ρw.set j (some (iD i))) [(ir, .row)] Ψ)
    (hE : ∀ i, i < c → ∀ Ψ : PyData → MM → Prop, Ψ (wiT (i, gt h i)) [(ir, .row)] → E (ρw.set j (some (iD i))) [(ir, .row)] Ψ)
    (q : ∀ ys : List Nat, ys.Sublist (List.range c) → (∀ i, i < c → must i → i ∈ ys) → Φ ((wsOf h ys).map wiT) [(ir, .row)]) :
    lcM ir C E vs (gN j) ρw ((List.range c).map iD) [] Φ := by
  have hc := g.c3
  refine lcM_sub iD (fun i => wiT (i, gt h i)) must (List.range c) [] (fun i hi => ?_) (by simp; omega) fun ys hs hm => ?_
  · have hi := List.mem_range.mp hi
    exact ⟨rfl, _, rfl, hT i hi, hE i hi⟩
  · have := q ys hs fun i hi => hm i (List.mem_range.mpr hi)
    unfold wsOf at this
    rw [List.map_map] at this
    exact this
theorem wishes_end (g : Gm c fs) {Φ : PyData → Prop} (q : ∀ ws, Wg c fs ws → Φ (wD ws)) (v2 : Option PyData) {h : List T} (hh : Hg c fs h) :
    (wThen (wSet 4 (wLc 0 (wI (o1 iR1 (o2 ixD (oV 1) (oC (.int 0))))) (own_law_wishes_1.map (·.2)) (gN 5) (wGtC 0 (wCallR 0 FF_law_taken (oCons (oC (.int 3)) oNil))) (wP (oL mkT (oCons (oV 5) (oCons (o2 ixD (oV 3) (oV 5)) oNil))))))
    (wRt (wP (oIf (o2 neD (oV 4) (oL mkL oNil)) (o1 tupD (oV 4)) (oL mkT (oCons (oL mkT (oCons (oC (.int 0)) (oCons (o2 ixD (oV 3) (oC (.int 0))) oNil))) oNil))))))
      [none, some (mD c fs), v2, some (hD h), none, none] [(0, .row)] fun o => ∃ d, o = .rt d [(0, .row)] ∧ Φ d := by
  have hc := g.c3
  have hc1 := g.c1
  refine q_then (q_set (q_lc (by decide) (q_i (rangeE g rfl) ⟨rfl, wish_row g hh (fun _ => False) (fun i hi Ψ hΨ => q_gt (c_taken rfl (by decide) (by decide) fun k hk => ⟨_, rfl, hΨ _ fun z => z.elim⟩)) (fun i hi Ψ hΨ => ?_) fun ys hs _ => ⟨ne_row (by decide), ?_⟩⟩)))
  · refine q_p (eL (eC rfl (eC (e2 rfl rfl (hD_get (by rw [hh.len]; exact hi))) rfl)) (ap_mkT2 _ _ rfl (toD_notL _))) (okT rfl) hΨ
  · refine q_rt ?_
    by_cases hy : ys = []
    · subst hy
      have h0' : 0 < h.length := by rw [hh.len]; omega
      have ew : Wg c fs (wsOf h [0]) := wsOf_ok g hh (List.singleton_sublist.mpr (List.mem_range.mpr hc1)) (by simp)
      refine q_p (d := wD (wsOf h [0])) (eN (e2 rfl (eL rfl ap_mkL0) (by decide +kernel : neD (.list []) (.list []) = some false)) (eL (eC (eL (eC rfl (eC (e2 rfl rfl (hD_get h0')) rfl)) (ap_mkT2 _ _ rfl (toD_notL _))) rfl) (ap_mkT1 _ rfl))) (okT rfl) ⟨_, rfl, q _ ew⟩
    · have ew := wsOf_ok g hh hs hy
      have en : neD (.list ((wsOf h ys).map wiT)) (.list []) = some true := by
        have hsh : SeqAt.shaped (.list ((wsOf h ys).map wiT)) = true := sh_list fun x hx => by
          obtain ⟨w, hw, rfl⟩ := List.mem_map.mp hx
          obtain ⟨a1, a2, a3⟩ := ew.ok w hw
          refine sh_tup (n := 20) (by omega) fun x hx => ?_
          simp only [List.mem_cons, List.not_mem_nil, or_false] at hx
          rcases hx with rfl | rfl
          · exact ⟨rfl, by simp [iD, PyData.depth]⟩
          · have := toD_depth w.2
            exact ⟨kd_lay _ (toD_kd _), by omega⟩
        unfold neD
        rw [if_pos ⟨hsh, sh_list fun x hx => by cases hx⟩]
        cases ys with
        | nil => exact absurd rfl hy
        | cons y ys => simp [wsOf, PyData.eqv, PyData.eqvAll]
      exact q_p (d := wD (wsOf h ys)) (eY (e2 rfl (eL rfl ap_mkL0) en) (e1 rfl rfl)) (okT rfl) ⟨_, rfl, q _ ew⟩
theorem FF_wishes_ok (g : Gm c fs) {Φ : PyData → Prop} (q : ∀ ws, Wg c fs ws → Φ (wD ws)) : FF_law_wishes [mD c fs] Φ := by
  have hc := g.c3
  have hc1 := g.c1
  refine ⟨rfl, ?_⟩
  refine q_then (q_if (q_gt (c_taken rfl (by decide) (by decide) fun k hk => ⟨_, rfl, ?_⟩)))
  by_cases hk0 : (0 : Int) < (k : Int)
  · rw [decide_eq_true hk0, if_pos rfl]
    refine q_then (q_set (q_callP (q_cons (q_p rfl (okT rfl) (q_cons (q_callR rfl (fun d hd => ?_) (FF_program_ok g (k := 5) (by omega) fun p hp hl => q_nil ⟨pD (tame c p), ?_, okT rfl, ne_row (by decide), ?_⟩)))))))
    · simp only [List.mem_cons, List.not_mem_nil, or_false] at hd
      rcases hd with rfl | rfl <;> exact okT rfl
    · exact F_law_tame_ok g (fun l hl => lines_in g (hp l hl)) (by omega)
    · have hin : ∀ l ∈ tame c p, l ∈ lines c fs := fun l hl => hp l ((tame_sub0 c p).subset hl)
      have ht := tame_tm0 c p
      refine q_set (q_p (eL (eC rfl (eC rfl (eC (eL rfl ap_mkT0) rfl))) (ran_nil g (fun l hl => lines_in g (hin l hl)) (tm_mono (by omega) ht))) (okT rfl) ⟨ne_row (by decide), ?_⟩)
      exact wishes_end g q _ (tm_Hg g hin (tm_mono (by omega) ht))
  · rw [decide_eq_false hk0, if_neg (by decide)]
    refine q_set (q_tuple (q_lc (by decide) (q_i (rangeE g rfl) ⟨rfl, ?_⟩)))
    obtain ⟨r, rs, hfs, hr⟩ : ∃ r rs, fs = r :: rs ∧ (r = 1 ∨ r = 2) := by
      have hf := g.f
      simp only [fss, List.mem_cons, List.not_mem_nil, or_false] at hf
      rcases hf with rfl | rfl | rfl | rfl | rfl | rfl <;> exact ⟨_, _, rfl, by simp⟩
    have ex : ∃ t : T, t.ok c fs ∧ t.dep ≤ 8 ∧ (addD (.tuple [.int 0]) (.tuple (List.replicate r (.int 0)))) = some t.toD := by
      rcases hr with rfl | rfl
      · exact ⟨.f1 0 (.c 0), ⟨by rw [hfs]; rfl, hc1⟩, by simp [T.dep], add_tt _ _ (by simp)⟩
      · exact ⟨.f2 0 (.c 0) (.c 0), ⟨by rw [hfs]; rfl, hc1, hc1⟩, by simp [T.dep], add_tt _ _ (by simp)⟩
    obtain ⟨t, t1, t2, t3⟩ := ex
    have em : mulTD (.tuple [.int 0]) (.int (r : Int)) = some (.tuple (List.replicate r (.int 0))) := by
      rcases hr with rfl | rfl <;> rfl
    refine lcM_draw (fun x => ∃ u : T, (u.ok c fs ∧ u.dep ≤ 8) ∧ x = u.toD) rfl (fun x ⟨u, _, hx⟩ => by rw [hx]; exact toD_notL u) _ [] (fun d hd => ⟨_, rfl, fun Ψ hΨ => ?_⟩) (by simp; omega) fun l hl hq => ?_
    · have hrow : rowish (.list [.int 0, t.toD]) = false := rowish_ne fun kvs r z => by cases z
      have e0 : ∀ d : PyData, oL mkL (oCons (oC (.int 0)) (oCons (o2 addD (oL mkT (oCons (oC (.int 0)) oNil)) (o2 mulTD (oL mkT (oCons (oC (.int 0)) oNil)) (o2 ixD (o2 ixD (oV 1) (oC (.int 1))) (oC (.int 0))))) oNil)) ((wipeD [none, some (mD c fs), none, none, none, none] (own_law_wishes_0.map (·.2))).set 5 (some d)) = some (.list [.int 0, t.toD]) := by
        intro d
        refine eL (eC rfl (eC (e2 (eL rfl (ap_mkT1 _ rfl)) (e2 (eL rfl (ap_mkT1 _ rfl)) (e2 (b := .int 0) (e2 rfl rfl rfl) rfl (atI_nat (j := 0) (by rw [hfs]; rfl))) em) t3) rfl)) ?_
        simp [mkL, sizeLine_eq]
      refine q_callR (ds := [.list [.int 0, t.toD]]) (eC (e0 d) rfl) (fun d hd => by rw [List.mem_singleton.mp hd]; exact okL hrow) (FF_pick_ok (by simp) (by simp) hrow fun x hx => ?_)
      simp only [List.mem_cons, List.not_mem_nil, or_false] at hx
      rcases hx with rfl | rfl
      · exact ⟨rfl, hΨ _ ⟨.c 0, ⟨hc1, by simp [T.dep]⟩, rfl⟩⟩
      · exact ⟨toD_notL t, hΨ _ ⟨t, ⟨t1, t2⟩, rfl⟩⟩
    · obtain ⟨h, rfl, hh⟩ := list_of hq
      refine ⟨_, rfl, ne_row (by decide), ?_⟩
      exact wishes_end g q none ⟨by rw [List.length_map, List.length_map, List.length_range] at hl; exact hl, fun u hu => (hh u hu).1, hdep_le fun u hu => (hh u hu).2⟩
/-! ### each line twice -/
theorem times_for {pd : PyData} : ∀ (p q : List Ln) (v3 : Option PyData), q.length + 2 * p.length ≤ 100 → ∃ v3',
    forD (fun d ρ => (gN 3 d ρ).bind (sA (o2 addD (oV 2) (o2 mulTD (oL mkT (oCons (oV 3) oNil)) (oV 1))) (gN 2))) (p.map Ln.toD) [some pd, some (.int 2), some (pD q), v3] = some (.nx [some pd, some (.int 2), some (pD (q ++ times p)), v3'])
  | [], q, v3, _ => ⟨v3, by simp [times, forD]⟩
  | l :: p, q, v3, hl => by
    rw [List.length_cons] at hl
    obtain ⟨w3, ih⟩ := times_for (pd := pd) p (q ++ [l, l]) (some l.toD) (by simp; omega)
    refine ⟨w3, ?_⟩
    have e : q ++ times (l :: p) = (q ++ [l, l]) ++ times p := by simp [times]
    rw [e, List.map_cons]
    have em : mulTD (.tuple [l.toD]) (.int 2) = some (.tuple [l.toD, l.toD]) := rfl
    have ea : addD (pD q) (.tuple [l.toD, l.toD]) = some (pD (q ++ [l, l])) := by
      show addD (.tuple _) (.tuple _) = _
      rw [add_tt _ _ (by simp; omega)]
      simp [pD]
    exact foG rfl (aE (e2 rfl (e2 (eL rfl (ap_mkT1 _ l.notL)) rfl em) ea) rfl) ih
theorem F_law_times_ok {p : List Ln} (hl : p.length ≤ 40) : F_law_times [pD p, .int 2] = some (pD (times p)) := by
  obtain ⟨v3, e⟩ := times_for (pd := pD p) p [] none (by simp; omega)
  exact fn_rt rfl (tN (aE (eL rfl ap_mkT0) rfl) (tN (foE (e1 rfl rfl) e) (rE rfl)))
/-- the program that the law asks of -/
theorem Pg_one (g : Gm c fs) {p : List Ln} (hp : ∀ l ∈ p, l ∈ lines c fs) (hl : p.length ≤ 4) : Pg c fs (tame c p) := by
  have := (tame_sub0 c p).length_le
  exact ⟨fun l hl => hp l ((tame_sub0 c p).subset hl), tame_tm0 c p, by omega, fun z => by omega⟩
theorem Pg_two (g : Gm c fs) {p : List Ln} (hp : ∀ l ∈ p, l ∈ lines c fs) (hl : p.length ≤ 4) : Pg c fs (tame c (times p)) := by
  have h1 := (tame_sub0 c (times p)).length_le
  have h2 := times_len p
  exact ⟨fun l hl => hp l (times_mem ((tame_sub0 c (times p)).subset hl)), tame_tm0 c (times p), by omega, fun z => ⟨p, (tame_sub0 c (times p)).eq_of_length (by omega)⟩⟩
end
end LL
set_option Elab.async false
set_option linter.all false
set_option maxRecDepth 100000
set_option maxHeartbeats 4000000
set_option autoImplicit false
/-! The plain law: the whole. -/
namespace LL
open PySem PySem.Spec PyProof.Rows L2
section
variable {ρ : DEnv} {M : MM} {Φ : OutM → Prop} {S T : SM}
theorem q_cut (P : DEnv → Prop) (h1 : ∀ Ψ : OutM → Prop, (∀ ρ', P ρ' → Ψ (.nx ρ' M)) → S ρ M Ψ) (h2 : ∀ ρ', P ρ' → T ρ' M Φ) : wThen S T ρ M Φ := h1 _ fun ρ' hp => h2 ρ' hp
theorem q_cut2 (P : DEnv → Prop) (h1 : ∀ Ψ : OutM → Prop, (∀ ρ', P ρ' → Ψ (.nx ρ' M)) → Ψ (.rt (.bool true) M) → S ρ M Ψ) (h2 : ∀ ρ', P ρ' → T ρ' M Φ) (h3 : Φ (.rt (.bool true) M)) : wThen S T ρ M Φ := h1 _ (fun ρ' hp => h2 ρ' hp) h3
theorem q_for {I : DEnv → Option (List PyData)} {vs : List Nat} {G : PyData → DEnv → Option DEnv} {ds : List PyData} (h : I (viewM ρ M) = some ds) (q : forM S vs G ds ρ M Φ) : wFor I vs G S ρ M Φ := ⟨ds, h, q⟩
theorem forM_inv {vs : List Nat} {G : PyData → DEnv → Option DEnv} (P : DEnv → Prop) (hv : ∀ p ∈ M, p.1 ∉ vs) : ∀ (ds : List PyData) (ρ : DEnv), (∀ d ∈ ds, ∀ ρ, P ρ → ∃ ρ1, G d ρ = some ρ1 ∧ ∀ Ψ : OutM → Prop, (∀ ρ', P ρ' → Ψ (.nx ρ' M)) → S ρ1 M Ψ) → P ρ → (∀ ρ', P ρ' → Φ (.nx ρ' M)) → forM S vs G ds ρ M Φ
  | [], ρ, _, hp, q => q ρ hp
  | d :: ds, ρ, H, hp, q => by
    obtain ⟨ρ1, h1, h2⟩ := H d List.mem_cons_self ρ hp
    exact ⟨hv, ρ1, h1, h2 _ fun ρ' hp' => forM_inv P hv ds ρ' (fun y hy => H y (List.mem_cons_of_mem _ hy)) hp' q⟩
theorem q_ifF {E : DEnv → Option Bool} (h : E (viewM ρ M) = some false) (q : T ρ M Φ) : wIf (wT E) S T ρ M Φ := ⟨false, h, by show (if false = true then S ρ M Φ else T ρ M Φ); rw [if_neg (by decide)]; exact q⟩
theorem q_ifT {E : DEnv → Option Bool} (h : E (viewM ρ M) = some true) (q : S ρ M Φ) : wIf (wT E) S T ρ M Φ := ⟨true, h, by show (if true = true then S ρ M Φ else T ρ M Φ); rw [if_pos rfl]; exact q⟩
theorem q_sp {i : Nat} {E : DEnv → Option PyData} {d : PyData} (h : E (viewM ρ M) = some d) (o : okM M d) (hn : ∀ p ∈ M, p.1 ≠ i) (q : Φ (.nx (ρ.set i (some d)) M)) : wSet i (wP E) ρ M Φ := ⟨d, h, o, hn, q⟩
end
theorem row_all {l : List PyData} (h : ∀ x ∈ l, ∀ kvs, x ≠ .dict kvs) : rowish (.list l) = false := rowish_ne fun kvs r z => h (.dict kvs) (by rw [z]; exact List.mem_cons_self) kvs rfl
theorem toD_nd (t : T) (kvs : KVs) : t.toD ≠ .dict kvs := fun z => by cases t <;> cases z
theorem row_map {α : Type} {h : α → PyData} (hh : ∀ a kvs, h a ≠ .dict kvs) (as : List α) : rowish (.list (as.map h)) = false := row_all fun x hx kvs => by
  obtain ⟨a, _, rfl⟩ := List.mem_map.mp hx
  exact hh a kvs
theorem rg_mem {n : Nat} {d : PyData} (h : d ∈ rgD 0 (n : Int)) : ∃ i : Nat, i < n ∧ d = iD i := by
  unfold rgD at h
  obtain ⟨i, hi, rfl⟩ := List.mem_map.mp h
  have := List.mem_range.mp hi
  exact ⟨i, by omega, by simp [iD]⟩
theorem iR1_n {n : Nat} (h : n ≤ 1000) : iR1 (.int (n : Int)) = some (rgD 0 (n : Int)) := by
  have : iR1 (.int (n : Int)) = if -16777216 ≤ (n : Int) ∧ (n : Int) ≤ 16777216 then some (rgD 0 (n : Int)) else none := rfl
  exact this.trans (if_pos (by omega))
abbrev M1 : MM := [(1, .row)]
section
variable {c m : Nat} {fs : List Nat} {p : List Ln} {ws : List (Nat × T)} {ρ : DEnv}
/-- what the slots hold -/
structure En (c m : Nat) (fs : List Nat) (p : List Ln) (ws : List (Nat × T)) (ρ : DEnv) : Prop where
  len : ρ.length = 23
  v2 : oV 2 ρ = some (mD c fs)
  v3 : oV 3 ρ = some (pD p)
  v4 : oV 4 ρ = some (.int (m : Int))
  v5 : oV 5 ρ = some (wD ws)
theorem En.set (h : En c m fs p ws ρ) {i : Nat} (hi : 5 < i) (x : Option PyData) : En c m fs p ws (ρ.set i x) :=
  ⟨by rw [List.length_set]; exact h.len, (oV_ne (by omega)).trans h.v2, (oV_ne (by omega)).trans h.v3, (oV_ne (by omega)).trans h.v4, (oV_ne (by omega)).trans h.v5⟩
theorem En.at (h : En c m fs p ws ρ) {i : Nat} (hi : i < 23) (x : PyData) : oV i (ρ.set i (some x)) = some x := set_oV (by rw [h.len]; exact hi)
theorem len_pD (p : List Ln) : lenD (pD p) = some (.int (p.length : Int)) := by
  show some (PyData.int ((p.map Ln.toD).length : Int)) = _
  rw [List.length_map]
/-! ### the moments -/
abbrev sureAll (c m : Nat) (p : List Ln) : PyData := .tuple ((dps m 0 (D0 c) p).map (sureR c))
theorem moments_ok (k : Wk c fs m p ws) (h : En c m fs p ws ρ) (h8 : oV 8 ρ = some (sureAll c m p)) {Φ : OutM → Prop} (q : ∀ ρ', En c m fs p ws ρ' → Φ (.nx ρ' M1)) :
    (wFor (o1 iR1 (o2 addD (o1 lenD (oV 3)) (oC (.int 1)))) [9] (gN 9) (wThen (wSet 10 (wP (oLc (o1 iL (oL (fun as => F_law_every_loss (as ++ [])) (oCons (oV 9) (oCons (oV 4) oNil)))) (own_law_1.map (·.2)) (gN 20) oYes (oL (fun as => F_law_ran (as ++ [])) (oCons (oV 2) (oCons (oSl (oV 3) oNoP (oP (oV 9))) (oCons (oV 20) oNil)))))))
    (wThen (wIf (wT (o2 inD (oC .none) (oV 10))) (wRt (wP (oC (.bool true)))) wNx)
    (wFor (o1 iR1 (o2 ixD (oV 2) (oC (.int 0)))) [7] (gN 7) (wThen (wSet 11 (wP (oLc (o1 iL (oV 10)) (own_law_2.map (·.2)) (gN 6) oYes (o2 ixD (oV 6) (oV 7)))))
    (wIf (wT (oNot (o1 asB (oL (fun as => (F_law_alike 12) (as ++ [])) (oCons (o2 ixD (o2 ixD (oV 8) (oV 9)) (oV 7)) (oCons (oIf (o2 eqD (oV 11) (o2 mulD (oL mkL (oCons (o2 ixD (oV 11) (oC (.int 0))) oNil)) (o1 lenD (oV 11)))) (o2 ixD (oV 11) (oC (.int 0))) (oC .none)) oNil)))))) (wRt (wP (oC (.bool false)))) wNx)))))) ρ M1 Φ := by
  have p8 := k.hp.len
  have hc1 := k.g.c1
  have hc3 := k.g.c3
  have er : o1 iR1 (o2 addD (o1 lenD (oV 3)) (oC (.int 1))) ρ = some (rgD 0 ((p.length + 1 : Nat) : Int)) := e1 (e2 (e1 h.v3 (len_pD p)) rfl rfl) (iR1_n (n := p.length + 1) (by omega))
  refine q_for er (forM_inv (fun ρ => En c m fs p ws ρ ∧ oV 8 ρ = some (sureAll c m p)) (fun p hp => by rw [List.mem_singleton.mp hp]; decide) _ _ (fun d hd ρ ⟨h, h8⟩ => ⟨_, rfl, fun Ψ hΨ => ?_⟩) ⟨h, h8⟩ fun ρ' ⟨h', _⟩ => q ρ' h')
  obtain ⟨i, hi, rfl⟩ := rg_mem hd
  have hi : i ≤ p.length := by omega
  have h9 := h.at (i := 9) (by decide) (iD i)
  have h' := h.set (i := 9) (by decide) (some (iD i))
  have h8' : oV 8 (ρ.set 9 (some (iD i))) = some (sureAll c m p) := (oV_ne (by decide)).trans h8
  generalize ρ.set 9 (some (iD i)) = ρ1 at h9 h' h8'
  obtain ⟨D, hDi, hI⟩ := (dps_at (c := c) k.hm p8 p 0 (D0 c) rfl (Nat.zero_le _) (DI_start c m p)).2 i hi
  rw [Nat.zero_add] at hI
  obtain ⟨n1, n2⟩ := ends_len (c := c) (p := p) k.hm (show i ≤ 8 by omega)
  refine q_then (q_sp (endsE k.g k.hp k.hm hi h'.len h'.v2 h'.v3 h'.v4 h9) (okL (row_map (fun a kvs z => by cases z) _)) (ne_row (by decide)) ?_)
  have h10 := h'.at (i := 10) (by decide) (.list ((ends c m p i).map hD))
  have h'' := h'.set (i := 10) (by decide) (some (.list ((ends c m p i).map hD)))
  have h8'' : oV 8 (ρ1.set 10 (some (.list ((ends c m p i).map hD)))) = some (sureAll c m p) := (oV_ne (by decide)).trans h8'
  have h9'' : oV 9 (ρ1.set 10 (some (.list ((ends c m p i).map hD)))) = some (iD i) := (oV_ne (by decide)).trans h9
  show wThen _ _ (ρ1.set 10 (some (.list ((ends c m p i).map hD)))) M1 _
  generalize ρ1.set 10 (some (.list ((ends c m p i).map hD))) = ρ2 at h10 h'' h8'' h9''
  refine q_then (q_ifF (e2 rfl h10 (noneE fun x hx => by have := (ends_ok k.g k.hp hx).2; omega)) ?_)
  refine q_nx ?_
  refine q_for (rangeE k.g h''.v2) (forM_inv (fun ρ => (En c m fs p ws ρ ∧ oV 8 ρ = some (sureAll c m p)) ∧ oV 9 ρ = some (iD i) ∧ oV 10 ρ = some (.list ((ends c m p i).map hD))) (fun p hp => by rw [List.mem_singleton.mp hp]; decide) _ _ (fun d hd ρ ⟨⟨g1, g2⟩, g3, g4⟩ => ⟨_, rfl, fun Ψ hΨ => ?_⟩) ⟨⟨h'', h8''⟩, h9'', h10⟩ fun ρ' hp => hΨ ρ' hp.1)
  obtain ⟨cell, hcell, rfl⟩ := List.mem_map.mp hd
  have hcell := List.mem_range.mp hcell
  have k7 := g1.at (i := 7) (by decide) (iD cell)
  have g1' := g1.set (i := 7) (by decide) (some (iD cell))
  have g2' : oV 8 (ρ.set 7 (some (iD cell))) = some (sureAll c m p) := (oV_ne (by decide)).trans g2
  have g3' : oV 9 (ρ.set 7 (some (iD cell))) = some (iD i) := (oV_ne (by decide)).trans g3
  have g4' : oV 10 (ρ.set 7 (some (iD cell))) = some (.list ((ends c m p i).map hD)) := (oV_ne (by decide)).trans g4
  generalize ρ.set 7 (some (iD cell)) = ρ3 at k7 g1' g2' g3' g4'
  have hx : ∀ x ∈ ends c m p i, cell < x.length := fun x hx => by rw [(ends_ok k.g k.hp hx).1]; exact hcell
  refine q_then (q_sp (cellE hx n2 g1'.len g4' k7) (okL (row_map toD_nd _)) (ne_row (by decide)) ?_)
  have k11 := g1'.at (i := 11) (by decide) (.list (((ends c m p i).map fun h => gt h cell).map T.toD))
  have f1 := g1'.set (i := 11) (by decide) (some (.list (((ends c m p i).map fun h => gt h cell).map T.toD)))
  have f7 : oV 7 (ρ3.set 11 (some (.list (((ends c m p i).map fun h => gt h cell).map T.toD)))) = some (iD cell) := (oV_ne (by decide)).trans k7
  have f8 : oV 8 (ρ3.set 11 (some (.list (((ends c m p i).map fun h => gt h cell).map T.toD)))) = some (sureAll c m p) := (oV_ne (by decide)).trans g2'
  have f9 : oV 9 (ρ3.set 11 (some (.list (((ends c m p i).map fun h => gt h cell).map T.toD)))) = some (iD i) := (oV_ne (by decide)).trans g3'
  have f10 : oV 10 (ρ3.set 11 (some (.list (((ends c m p i).map fun h => gt h cell).map T.toD)))) = some (.list ((ends c m p i).map hD)) := (oV_ne (by decide)).trans g4'
  show wIf _ _ _ (ρ3.set 11 (some (.list (((ends c m p i).map fun h => gt h cell).map T.toD)))) M1 _
  generalize ρ3.set 11 (some (.list (((ends c m p i).map fun h => gt h cell).map T.toD))) = ρ4 at k11 f1 f7 f8 f9 f10
  have hdep : ∀ x ∈ (ends c m p i).map fun h => gt h cell, x.dep ≤ 12 := fun x hx => by
    obtain ⟨y, hy, rfl⟩ := List.mem_map.mp hx
    obtain ⟨y1, y2⟩ := ends_ok k.g k.hp hy
    have := gt_dep (h := y) (i := cell) (by omega)
    omega
  have hone : oneT (D.map fun e => gt e.1.1 cell) = oneT ((ends c m p i).map fun h => gt h cell) := ends_D k.hm (show i ≤ 8 by omega) hI cell
  have e8 : o2 ixD (o2 ixD (oV 8) (oV 9)) (oV 7) ρ4 = some (sureC D cell) := by
    refine e2 (e2 f8 f9 (b := iD i) (a := sureAll c m p) (r := some (sureR c D)) ?_) f7 ?_
    · refine atI_nat ?_
      rw [List.getElem?_map, hDi]; rfl
    · refine atI_nat ?_
      rw [List.getElem?_map, List.getElem?_range hcell]; rfl
  have ed : oIf (o2 eqD (oV 11) (o2 mulD (oL mkL (oCons (o2 ixD (oV 11) (oC (.int 0))) oNil)) (o1 lenD (oV 11)))) (o2 ixD (oV 11) (oC (.int 0))) (oC .none) ρ4 = some (oD (oneT ((ends c m p i).map fun h => gt h cell))) := by
    cases he : (ends c m p i).map fun h => gt h cell with
    | nil =>
      have := congrArg List.length he
      rw [List.length_map, List.length_nil] at this
      omega
    | cons t r =>
      rw [he] at k11 hdep
      refine oneE hdep ?_ k11
      rw [← he, List.length_map]; omega
  refine q_ifF (noE (b := true) (e1 (a := .bool true) (eL (eC e8 (eC ed rfl)) ?_) rfl) rfl) (q_nx (hΨ _ ⟨⟨f1, f8⟩, f9, f10⟩))
  unfold sureC
  rw [hone]
  exact alike_o fun t ht => hdep t (by
    rw [oneT_iff] at ht
    cases he : (ends c m p i).map fun h => gt h cell with
    | nil => exact absurd he ht.1
    | cons u r =>
      have := ht.2 u (by rw [he]; exact List.mem_cons_self)
      rw [← this]; exact List.mem_cons_self)
end
end LL
set_option Elab.async false
set_option linter.all false
set_option maxRecDepth 100000
set_option maxHeartbeats 4000000
set_option autoImplicit false
/-! The plain law: the turns, the repeats, the whole. -/
namespace LL
open PySem PySem.Spec PyProof.Rows L2
section
variable {c m : Nat} {fs : List Nat} {p : List Ln} {ws : List (Nat × T)} {ρ : DEnv} {o : Option (List Nat)} {lv : Nat}
theorem lD_nd (a : List Nat) (kvs : KVs) : lD a ≠ .dict kvs := fun z => by cases z
theorem oL_nd (a : Option (List Nat)) (kvs : KVs) : olD a ≠ .dict kvs := fun z => by cases a <;> cases z
/-- what the slots hold while values are drawn -/
structure Et (c m : Nat) (fs : List Nat) (p : List Ln) (ws : List (Nat × T)) (o : Option (List Nat)) (lv : Nat) (ρ : DEnv) : Prop where
  n : En c m fs p ws ρ
  v12 : oV 12 ρ = some (.list ((EL m p.length).map lD))
  v13 : oV 13 ρ = some (.list ((badL c m p ws).map lD))
  v14 : oV 14 ρ = some (.int (lv : Int))
  v15 : oV 15 ρ = some (olD o)
theorem Et.set (h : Et c m fs p ws o lv ρ) {i : Nat} (hi : 15 < i) (x : Option PyData) : Et c m fs p ws o lv (ρ.set i x) :=
  ⟨h.n.set (by omega) x, (oV_ne (by omega)).trans h.v12, (oV_ne (by omega)).trans h.v13, (oV_ne (by omega)).trans h.v14, (oV_ne (by omega)).trans h.v15⟩
theorem range_D (n : Nat) : PyData.tuple (rgD 0 (n : Int)) = lD (List.range n) := by simp [rgD, lD, iD]
theorem turns_ok (k : Wk c fs m p ws) (ho : F_least_harm [mD c fs, pD p, .int (m : Int), wD ws] = some (olD o)) (hh : Lh (badL c m p ws) o) (hv : Lst (badL c m p ws) lv) (h : Et c m fs p ws o lv ρ) {Φ : OutM → Prop} (q : ∀ ρ', En c m fs p ws ρ' → Φ (.nx ρ' M1)) :
    (wFor (o1 iR1 (oC (.int 5))) [16] (gN 16) (wThen (wSet 17 (wCallR 1 FF_law_pick (oCons (o2 addD (oV 12) (o2 mulD (oL mkL (oCons (oV 15) oNil)) (oC (.int 3)))) oNil)))
    (wThen (wSet 17 (wCallR 1 FF_law_pick (oCons (o2 addD (o2 mulD (oL mkL (oCons (oV 17) oNil)) (oC (.int 4))) (oL mkL (oCons (oC .none) (oCons (oC opD) (oCons (oL (fun ds => if ds.length ≤ sizeLine then some opL else none) (oCons (oC (.int 0)) oNil)) (oCons (oL mkT (oCons (oC (.int 0)) (oCons (oC (.int 0)) oNil))) (oCons (oL mkT (oCons (oC (.bool true)) oNil)) (oCons (oL mkT (oCons (oC (.int 99)) oNil)) (oCons (oRg1 (o2 addD (oV 4) (oC (.int 1)))) oNil))))))))) oNil)))
    (wThen (wSet 18 (wP (oB (oAnd (o1 (isaD "tuple") (oV 17)) (oAnd (o2 inD (oV 17) (oV 13)) (o2 eqD (o1 lenD (oV 17)) (oV 14)))))))
    (wThen (wSet 18 (wP (oB (oAnd (o1 asB (oV 18)) (o2 eqD (oLc (o1 iT (oV 17)) (own_law_5.map (·.2)) (gN 21) (o1 (isaD "bool") (oV 21)) (oV 21)) (oL mkL oNil))))))
    (wThen (wIf (wT (o2 isD (oV 17) (oC .none))) (wSet 18 (wP (oB (o2 eqD (oV 13) (oL mkL oNil))))) wNx)
    (wIf (wT (oNot (o1 asB (oL (fun as => (F_law_alike 12) (as ++ [])) (oCons (oL (fun as => F_shows_harm (as ++ [])) (oCons (oV 2) (oCons (oV 3) (oCons (oV 4) (oCons (oV 5) (oCons (oV 17) oNil)))))) (oCons (oV 18) oNil)))))) (wRt (wP (oC (.bool false)))) wNx))))))) ρ M1 Φ := by
  have p8 := k.hp.len
  have hm2 : m ≤ 2 := by rcases k.hm with h | h <;> omega
  obtain ⟨n1, n2⟩ := EL_len k.hm p8
  refine q_for (e1 rfl (iR1_n (n := 5) (by omega))) (forM_inv (fun ρ => Et c m fs p ws o lv ρ) (fun p hp => by rw [List.mem_singleton.mp hp]; decide) _ _ (fun d hd ρ h => ⟨_, rfl, fun Ψ hΨ => ?_⟩) h fun ρ' h' => q ρ' h'.n)
  have h' := h.set (i := 16) (by decide) (some d)
  generalize ρ.set 16 (some d) = ρ1 at h'
  -- the first pick
  have hrep : mulD (.list [olD o]) (.int 3) = some (.list (List.replicate 3 (olD o))) := by
    have := mulL [olD o] 3 (by simp) (by omega)
    rw [rep_flat] at this
    exact this
  have e1' : o2 addD (oV 12) (o2 mulD (oL mkL (oCons (oV 15) oNil)) (oC (.int 3))) ρ1 = some (.list ((EL m p.length).map lD ++ List.replicate 3 (olD o))) := by
    refine e2 h'.v12 (e2 (eL (eC h'.v15 rfl) (ap_mkL1 _ (notL_olD o))) rfl hrep) ?_
    have : addD (.list ((EL m p.length).map lD)) (.list (List.replicate 3 (olD o))) = if ((EL m p.length).map lD).length + (List.replicate 3 (olD o)).length ≤ sizeLine then some (.list ((EL m p.length).map lD ++ List.replicate 3 (olD o))) else none := rfl
    exact this.trans (if_pos (by rw [sizeLine_eq, List.length_map, List.length_replicate]; omega))
  have hr1 : rowish (.list ((EL m p.length).map lD ++ List.replicate 3 (olD o))) = false := row_all fun x hx kvs => by
    rcases List.mem_append.mp hx with hx | hx
    · obtain ⟨l, _, rfl⟩ := List.mem_map.mp hx
      exact lD_nd l kvs
    · rw [(List.mem_replicate.mp hx).2]
      exact oL_nd o kvs
  refine q_then (q_set (q_callR (eC e1' rfl) (fun d hd => by rw [List.mem_singleton.mp hd]; exact okL hr1) (FF_pick_ok (by simp) (by simp; omega) hr1 fun v0 hv0 => ?_)))
  have hv0' : (v0 = .none ∨ ∃ l ∈ EL m p.length, v0 = lD l) := by
    rcases List.mem_append.mp hv0 with hx | hx
    · obtain ⟨l, hl, rfl⟩ := List.mem_map.mp hx
      exact .inr ⟨l, hl, rfl⟩
    · rw [(List.mem_replicate.mp hx).2]
      cases ho' : o with
      | none => exact .inl rfl
      | some l => exact .inr ⟨l, (List.mem_filter.mp (hh.yes l ho').1).1, rfl⟩
  have hvn : notL v0 = true := by rcases hv0' with rfl | ⟨l, _, rfl⟩ <;> rfl
  have hvd : ∀ kvs, v0 ≠ .dict kvs := fun kvs z => by rcases hv0' with rfl | ⟨l, _, rfl⟩ <;> cases z
  refine ⟨hvn, ne_row (by decide), ?_⟩
  have k17 := h'.n.at (i := 17) (by decide) v0
  have h'' := h'.set (i := 17) (by decide) (some v0)
  show wThen _ _ (ρ1.set 17 (some v0)) M1 _
  generalize ρ1.set 17 (some v0) = ρ2 at k17 h''
  -- the second pick
  have hrep2 : mulD (.list [v0]) (.int 4) = some (.list (List.replicate 4 v0)) := by
    have := mulL [v0] 4 (by simp) (by omega)
    rw [rep_flat] at this
    exact this
  have erg : oRg1 (o2 addD (oV 4) (oC (.int 1))) ρ2 = some (lD (List.range (m + 1))) := by
    rw [ap_oRg1, show o2 addD (oV 4) (oC (.int 1)) ρ2 = some (.int ((m + 1 : Nat) : Int)) from e2 h''.n.v4 rfl rfl, Option.bind_some, ap_asI, Option.bind_some, if_pos (by omega), range_D]
  have eop : oL (fun ds => if ds.length ≤ sizeLine then some opL else none) (oCons (oC (.int 0)) oNil) ρ2 = some opL := eL rfl (if_pos (by rw [sizeLine_eq]; simp))
  have e7 : oL mkL (oCons (oC .none) (oCons (oC opD) (oCons (oL (fun ds => if ds.length ≤ sizeLine then some opL else none) (oCons (oC (.int 0)) oNil)) (oCons (oL mkT (oCons (oC (.int 0)) (oCons (oC (.int 0)) oNil))) (oCons (oL mkT (oCons (oC (.bool true)) oNil)) (oCons (oL mkT (oCons (oC (.int 99)) oNil)) (oCons (oRg1 (o2 addD (oV 4) (oC (.int 1)))) oNil))))))) ρ2 = some (.list [.none, opD, opL, lD [0, 0], .tuple [.bool true], lD [99], lD (List.range (m + 1))]) := by
    refine eL (eC rfl (eC rfl (eC eop (eC (eL rfl (ap_mkT2 _ _ rfl rfl)) (eC (eL rfl (ap_mkT1 _ rfl)) (eC (eL rfl (ap_mkT1 _ rfl)) (eC erg rfl))))))) ?_
    have : mkL [.none, opD, opL, .tuple [.int 0, .int 0], .tuple [.bool true], .tuple [.int 99], lD (List.range (m + 1))] = if 7 ≤ sizeLine ∧ true = true then some (.list [.none, opD, opL, .tuple [.int 0, .int 0], .tuple [.bool true], .tuple [.int 99], lD (List.range (m + 1))]) else none := rfl
    rw [this, if_pos ⟨by rw [sizeLine_eq]; omega, rfl⟩]
    rfl
  have e8 : o2 addD (o2 mulD (oL mkL (oCons (oV 17) oNil)) (oC (.int 4))) (oL mkL (oCons (oC .none) (oCons (oC opD) (oCons (oL (fun ds => if ds.length ≤ sizeLine then some opL else none) (oCons (oC (.int 0)) oNil)) (oCons (oL mkT (oCons (oC (.int 0)) (oCons (oC (.int 0)) oNil))) (oCons (oL mkT (oCons (oC (.bool true)) oNil)) (oCons (oL mkT (oCons (oC (.int 99)) oNil)) (oCons (oRg1 (o2 addD (oV 4) (oC (.int 1)))) oNil)))))))) ρ2 = some (.list (List.replicate 4 v0 ++ [.none, opD, opL, lD [0, 0], .tuple [.bool true], lD [99], lD (List.range (m + 1))])) := by
    refine e2 (e2 (eL (eC k17 rfl) (ap_mkL1 _ hvn)) rfl hrep2) e7 ?_
    have : ∀ b : List PyData, addD (.list (List.replicate 4 v0)) (.list b) = if (List.replicate 4 v0).length + b.length ≤ sizeLine then some (.list (List.replicate 4 v0 ++ b)) else none := fun _ => rfl
    exact (this _).trans (if_pos (by rw [sizeLine_eq]; simp))
  have hr2 : rowish (.list (List.replicate 4 v0 ++ [.none, opD, opL, lD [0, 0], .tuple [.bool true], lD [99], lD (List.range (m + 1))])) = false := rowish_ne fun kvs r z => hvd kvs (List.cons.inj z).1
  refine q_then (q_set (q_callR (eC e8 rfl) (fun d hd => by rw [List.mem_singleton.mp hd]; exact okL hr2) (FF_pick_ok (by simp) (by simp) hr2 fun v hv' => ?_)))
  obtain ⟨a1, a2, a3, a4, a5⟩ := are_no (p := p) k.hm p8
  have hkv : Vk m p.length v ∧ (∀ l, l ∉ EL m p.length → v = lD l → F_are_losses [pD p, .int (m : Int), lD l] = some (.bool false)) ∧ notL v = true := by
    rcases List.mem_append.mp hv' with hx | hx
    · rw [(List.mem_replicate.mp hx).2]
      rcases hv0' with rfl | ⟨l, hl, rfl⟩
      · exact ⟨.no, fun l _ z => (by cases z), rfl⟩
      · exact ⟨.el l hl, fun l' h1 z => absurd (lD_inj z ▸ hl) h1, rfl⟩
    · simp only [List.mem_cons, List.not_mem_nil, or_false] at hx
      rcases hx with rfl | rfl | rfl | rfl | rfl | rfl | rfl
      · exact ⟨.no, fun l _ z => (by cases z), rfl⟩
      · exact ⟨.op _ isa_tup_d rfl, fun l _ z => (by cases z), rfl⟩
      · exact ⟨.op _ isa_tup_l rfl, fun l _ z => (by cases z), rfl⟩
      · exact ⟨.out _ fun z => (a5 _ z).1 rfl, fun l _ z => (by rw [← lD_inj z]; exact a1), rfl⟩
      · exact ⟨.tr, fun l _ z => (by
          have z : ([PyData.bool true] : List PyData) = l.map iD := by simpa [lD] using z
          cases l with
          | nil => cases z
          | cons x r => cases (List.cons.inj z).1), rfl⟩
      · exact ⟨.out _ fun z => (a5 _ z).2.1 rfl, fun l _ z => (by rw [← lD_inj z]; exact a3), rfl⟩
      · exact ⟨.out _ fun z => (a5 _ z).2.2 rfl, fun l _ z => (by rw [← lD_inj z]; exact a4), rfl⟩
  obtain ⟨hkv, hout, hvn'⟩ := hkv
  refine ⟨hvn', ne_row (by decide), ?_⟩
  have j17 := h''.n.at (i := 17) (by decide) v
  have h3 := h''.set (i := 17) (by decide) (some v)
  show wThen _ _ (ρ2.set 17 (some v)) M1 _
  generalize ρ2.set 17 (some v) = ρ3 at j17 h3
  obtain ⟨b1, b2, s1, s2, s3⟩ := fine_ok k ho hh hv hkv hout
  refine q_then (q_sp (s1 ρ3 j17 h3.v13 h3.v14) (okT rfl) (ne_row (by decide)) ?_)
  have k18 := h3.n.at (i := 18) (by decide) (.bool b1)
  have k17' : oV 17 (ρ3.set 18 (some (.bool b1))) = some v := (oV_ne (by decide)).trans j17
  have h4 := h3.set (i := 18) (by decide) (some (.bool b1))
  show wThen _ _ (ρ3.set 18 (some (.bool b1))) M1 _
  generalize ρ3.set 18 (some (.bool b1)) = ρ4 at k18 k17' h4
  refine q_then (q_sp (s2 ρ4 h4.n.len k17' k18) (okT rfl) (ne_row (by decide)) ?_)
  have m18 := h4.n.at (i := 18) (by decide) (.bool b2)
  have m17 : oV 17 (ρ4.set 18 (some (.bool b2))) = some v := (oV_ne (by decide)).trans k17'
  have h5 := h4.set (i := 18) (by decide) (some (.bool b2))
  show wThen _ _ (ρ4.set 18 (some (.bool b2))) M1 _
  generalize ρ4.set 18 (some (.bool b2)) = ρ5 at m18 m17 h5
  refine q_cut (fun ρ => Et c m fs p ws o lv ρ ∧ oV 17 ρ = some v ∧ oV 18 ρ = some (.bool (if isNoneD v = true then (badL c m p ws).isEmpty else b2))) (fun Ψ hΨ => ?_) fun ρ6 ⟨g1, g2, g3⟩ => ?_
  · cases hn : isNoneD v with
    | true =>
      refine q_ifT (e2 m17 rfl ((isN_eq v).trans (by rw [hn]))) (q_sp (eB (e2 h5.v13 (eL rfl ap_mkL0) (emptyE _))) (okT rfl) (ne_row (by decide)) (hΨ _ ⟨h5.set (by decide) _, (oV_ne (by decide)).trans m17, ?_⟩))
      rw [hn, if_pos rfl]
      exact h5.n.at (by decide) _
    | false =>
      refine q_ifF (e2 m17 rfl ((isN_eq v).trans (by rw [hn]))) (q_nx (hΨ _ ⟨h5, m17, ?_⟩))
      rw [hn, if_neg (by decide)]
      exact m18
  · refine q_ifF (noE (b := true) (e1 (a := .bool true) (eL (eC (eL (eC g1.n.v2 (eC g1.n.v3 (eC g1.n.v4 (eC g1.n.v5 (eC g2 rfl))))) s3) (eC g3 rfl)) ?_) rfl) rfl) (q_nx (hΨ _ g1))
    exact (alike_b 11 _ _).trans (by simp)
/-! ### behind the turns -/
abbrev RR : OutM → Prop := fun o => ∃ M, o = .rt (.bool true) M
theorem tail_end (k : Wk c fs m p ws) (h : En c m fs p ws ρ) :
    (wThen (wIf (wT (o2 gtD (o2 mulD (o1 maxD (o2 addD (oL mkL (oCons (o1 lenD (oV 3)) oNil)) (oL mkL (oCons (oC (.int 0)) oNil)))) (oV 4)) (oC (.int 3)))) (wRt (wP (oC (.bool true)))) wNx)
    (wThen (wSet 10 (wP (oL (fun as => F_law_repeats (as ++ [])) (oCons (oV 2) (oCons (oV 3) (oCons (oV 4) oNil))))))
    (wThen (wIf (wT (o2 neD (oLc (o1 iL (oV 10)) (own_law_6.map (·.2)) (gN 6) (o2 gtD (o1 maxD (oLc (o1 iT (oV 6)) (own_law_7.map (·.2)) (gN 22) oYes (oL (fun as => (F_law_deep 12) (as ++ [])) (oCons (oV 22) oNil)))) (oC (.int 8))) (oC (.int 1))) (oL mkL oNil))) (wRt (wP (oC (.bool true)))) wNx)
    (wThen (wSet 19 (wP (oB (o2 eqD (oLc (o1 iL (oV 10)) (own_law_8.map (·.2)) (gN 6) (o2 neD (oLc (o1 iT (oV 5)) (own_law_9.map (·.2)) (gTupD 2 (gConsD (gN 7) (gConsD (gN 22) gNilD))) (o2 neD (o2 ixD (oV 6) (oV 7)) (oV 22)) (oC (.int 1))) (oL mkL oNil)) (oV 6)) (oL mkL oNil)))))
    (wRt (wP (oL (fun as => (F_law_alike 12) (as ++ [])) (oCons (oL (fun as => F_is_repeat_proof (as ++ [])) (oCons (oV 2) (oCons (oV 3) (oCons (oV 4) (oCons (oV 5) oNil))))) (oCons (oV 19) oNil))))))))) ρ M1 RR := by
  have p8 := k.hp.len
  have hm2 : m ≤ 2 := by rcases k.hm with h | h <;> omega
  have em : maxD (.list [.int (p.length : Int), .int 0]) = some (.int (p.length : Int)) := by
    show some (PyData.int (max (p.length : Int) 0)) = _
    rw [show max (p.length : Int) 0 = (p.length : Int) by omega]
  have ea : addD (.list [.int (p.length : Int)]) (.list [.int 0]) = some (.list [.int (p.length : Int), .int 0]) := by
    have : addD (.list [.int (p.length : Int)]) (.list [.int 0]) = if 2 ≤ sizeLine then some (.list [.int (p.length : Int), .int 0]) else none := rfl
    exact this.trans (if_pos (by rw [sizeLine_eq]; omega))
  have eu : mulD (.int (p.length : Int)) (.int (m : Int)) = some (.int ((p.length * m : Nat) : Int)) := by
    have : mulD (.int (p.length : Int)) (.int (m : Int)) = if -(2 ^ 64) < (p.length : Int) ∧ (p.length : Int) < 2 ^ 64 then some (.int ((p.length : Int) * (m : Int))) else none := rfl
    rw [this, if_pos (by omega), Int.natCast_mul]
  have eg : o2 gtD (o2 mulD (o1 maxD (o2 addD (oL mkL (oCons (o1 lenD (oV 3)) oNil)) (oL mkL (oCons (oC (.int 0)) oNil)))) (oV 4)) (oC (.int 3)) ρ = some (decide ((3 : Int) < ((p.length * m : Nat) : Int))) :=
    e2 (e2 (e1 (e2 (eL (eC (e1 h.v3 (len_pD p)) rfl) (ap_mkL1 _ rfl)) (eL rfl (ap_mkL1 _ rfl)) ea) em) h.v4 eu) rfl rfl
  by_cases hb : (3 : Int) < ((p.length * m : Nat) : Int)
  · rw [decide_eq_true hb] at eg
    exact q_then (q_ifT eg (q_rt (q_p (d := .bool true) rfl (okT rfl) ⟨_, rfl⟩)))
  · rw [decide_eq_false hb] at eg
    have hok : okR m p.length 1 1 = true := by
      have h1 := okR_all m (mn_mem k.hm) p.length (List.mem_range.mpr (by omega))
      have h2 := Int.not_lt.mp hb
      exact h1 (decide_eq_true (by exact_mod_cast h2))
    obtain ⟨r1, r2⟩ := reps_bd p [h0 c] 1 (k.hp.in k.g) (h0_bd c) hok
    refine q_then (q_ifF eg (q_nx ?_))
    refine q_then (q_sp (eL (eC h.v2 (eC h.v3 (eC h.v4 rfl))) (F_law_repeats_ok k.g hm2 (k.hp.in k.g) hok)) (okL (row_map (fun a kvs z => by cases z) _)) (ne_row (by decide)) ?_)
    have h10 := h.at (i := 10) (by decide) (.list ((reps m [h0 c] p).map hD))
    have h' := h.set (i := 10) (by decide) (some (.list ((reps m [h0 c] p).map hD)))
    show wThen _ _ (ρ.set 10 (some (.list ((reps m [h0 c] p).map hD)))) M1 _
    generalize ρ.set 10 (some (.list ((reps m [h0 c] p).map hD))) = ρ1 at h10 h'
    refine q_then (q_ifF (deepE k.g.c1 r1 k.g.c3 r2 h'.len h10) (q_nx ?_))
    refine q_then (q_sp (dueE k.w k.hw.len r1 r2 h'.len h10 h'.v5) (okT rfl) (ne_row (by decide)) ?_)
    have h19 := h'.at (i := 19) (by decide) (.bool ((reps m [h0 c] p).all (ful ws)))
    have h'' := h'.set (i := 19) (by decide) (some (.bool ((reps m [h0 c] p).all (ful ws))))
    show wRt _ (ρ1.set 19 (some (.bool ((reps m [h0 c] p).all (ful ws))))) M1 _
    generalize ρ1.set 19 (some (.bool ((reps m [h0 c] p).all (ful ws)))) = ρ2 at h19 h''
    exact q_rt (q_p (d := .bool true) (eL (eC (eL (eC h''.v2 (eC h''.v3 (eC h''.v4 (eC h''.v5 rfl)))) (F_is_repeat_proof_ok k hok)) (eC h19 rfl)) ((alike_b 11 _ _).trans (by simp))) (okT rfl) ⟨_, rfl⟩)
end
end LL
set_option Elab.async false
set_option linter.all false
set_option maxRecDepth 100000
set_option maxHeartbeats 4000000
set_option autoImplicit false
/-! The plain law: the whole. -/
namespace LL
open PySem PySem.Spec PyProof.Rows L2
section
variable {c : Nat} {fs : List Nat}
theorem Pg.tm7 {p : List Ln} (h : Pg c fs p) : tm 7 (h0 c) p := tm_mono (by omega) h.t5
theorem law_plain : W_law (List.replicate 23 none) [(1, .row)] RR := by
  unfold W_law
  -- the machine
  refine q_then (q_set (q_callR rfl (fun d hd => by cases hd) (FF_machine_ok fun c fs g => ⟨ne_row (by decide), ?_⟩)))
  have hc1 := g.c1
  have hc3 := g.c3
  have l0 : ((List.replicate 23 (none : Option PyData)).set 2 (some (mD c fs))).length = 23 := by simp
  have r2 : oV 2 ((List.replicate 23 (none : Option PyData)).set 2 (some (mD c fs))) = some (mD c fs) := set_oV (by simp)
  show wThen _ _ ((List.replicate 23 (none : Option PyData)).set 2 (some (mD c fs))) M1 _
  generalize (List.replicate 23 (none : Option PyData)).set 2 (some (mD c fs)) = ρ1 at l0 r2
  -- the program, how many
  refine q_cut (fun ρ => ∃ (p : List Ln) (m : Nat), ρ.length = 23 ∧ oV 2 ρ = some (mD c fs) ∧ oV 3 ρ = some (pD p) ∧ oV 4 ρ = some (.int (m : Int)) ∧ (m = 1 ∨ m = 2) ∧ Pg c fs p ∧ p.length ≤ 4) (fun Ψ hΨ => ?_) fun ρ2 ⟨p, m, l2, s2, s3, s4, hm, hp, hp4⟩ => ?_
  · refine q_asg (q_tup (q_cons (q_callP (q_cons (q_p r2 (okT rfl) (q_cons (q_callR (eC r2 rfl) (fun d hd => ?_) (FF_program_ok g (k := 4) (by omega) fun p hp hl => q_nil ⟨pD (tame c p), ?_, okT rfl, ?_⟩))))))))
    · simp only [List.mem_cons, List.not_mem_nil, or_false] at hd
      rcases hd with rfl | rfl <;> exact okT rfl
    · exact F_law_tame_ok g (fun l hl => lines_in g (hp l hl)) (by omega)
    · refine q_cons (q_add (c_taken rfl (by decide) (by decide) fun i hi => ⟨_, rfl, q_nil ⟨_, ap_mkT2 _ _ rfl rfl, fun p hp => by rw [List.mem_singleton.mp hp]; decide, _, rfl, ?_⟩⟩))
      have hpl := (tame_sub0 c p).length_le
      refine hΨ _ ⟨tame c p, 1 + i, by simp [l0], ?_, ?_, ?_, by omega, Pg_one g hp hl, by omega⟩
      · rw [oV_ne (by decide), oV_ne (by decide)]; exact r2
      · rw [oV_ne (by decide)]; exact set_oV (by rw [l0]; decide)
      · rw [set_oV (by simp [l0])]
        congr 1
  -- each line twice
  refine q_cut (fun ρ => ∃ p : List Ln, ρ.length = 23 ∧ oV 2 ρ = some (mD c fs) ∧ oV 3 ρ = some (pD p) ∧ oV 4 ρ = some (.int (m : Int)) ∧ Pg c fs p) (fun Ψ hΨ => ?_) fun ρ3 ⟨p', l3, u2, u3, u4, hp'⟩ => ?_
  · refine q_if (q_eq (c_taken rfl (by decide) (by decide) fun i hi => ⟨_, rfl, ?_⟩))
    by_cases hi0 : (i : Int) = 0
    · rw [decide_eq_true hi0, if_pos rfl]
      have hpt := Pg_two g hp.ln hp4
      refine q_sp (eL (eC s2 (eC (eL (eC s3 rfl) (F_law_times_ok (by omega))) rfl)) (F_law_tame_ok g (fun l hl => lines_in g (hp.ln l (times_mem hl))) (by rw [times_len]; omega))) (okT rfl) (ne_row (by decide)) (hΨ _ ⟨_, by rw [List.length_set]; exact l2, (oV_ne (by decide)).trans s2, set_oV (by rw [l2]; decide), (oV_ne (by decide)).trans s4, hpt⟩)
    · rw [decide_eq_false hi0, if_neg (by decide)]
      exact q_nx (hΨ _ ⟨p, l2, s2, s3, s4, hp⟩)
  clear s2 s3 s4 hp hp4 l2
  -- the wishes
  refine q_then (q_set (q_callR (eC u2 rfl) (fun d hd => by rw [List.mem_singleton.mp hd]; exact okT rfl) (FF_wishes_ok g fun ws0 hw0 => ⟨ne_row (by decide), ?_⟩)))
  have n0 : En c m fs p' ws0 (ρ3.set 5 (some (wD ws0))) := ⟨by rw [List.length_set]; exact l3, (oV_ne (by decide)).trans u2, (oV_ne (by decide)).trans u3, (oV_ne (by decide)).trans u4, set_oV (by rw [l3]; decide)⟩
  show wThen _ _ (ρ3.set 5 (some (wD ws0))) M1 _
  generalize ρ3.set 5 (some (wD ws0)) = ρ4 at n0
  -- wishes of the program's own end
  refine q_cut (fun ρ => ∃ ws, Wg c fs ws ∧ En c m fs p' ws ρ) (fun Ψ hΨ => ?_) fun ρ5 ⟨ws, hw, n5⟩ => ?_
  · refine q_if (q_gt (c_taken rfl (by decide) (by decide) fun i hi => ⟨_, rfl, ?_⟩))
    by_cases hi0 : (0 : Int) < (i : Int)
    · rw [decide_eq_true hi0, if_pos rfl]
      have hg := tm_Hg g hp'.ln hp'.tm7
      refine q_then (q_sp (eL (eC n0.v2 (eC n0.v3 (eC (eL rfl ap_mkT0) rfl))) (ran_nil g (hp'.in g) (tm_mono (by omega) hp'.t5))) (okT rfl) (ne_row (by decide)) ?_)
      have h6 := n0.at (i := 6) (by decide) (hD (runs (h0 c) p'))
      have n1 := n0.set (i := 6) (by decide) (some (hD (runs (h0 c) p')))
      show wSet _ _ (ρ4.set 6 (some (hD (runs (h0 c) p')))) M1 _
      generalize ρ4.set 6 (some (hD (runs (h0 c) p'))) = ρ6 at h6 n1
      refine q_set (q_tuple (q_lc (by decide) (q_i (rangeE g n1.v2) ⟨rfl, wish_row g hg (fun i => i = 0) (fun i hi Υ hΥ => ?_) (fun i hi Υ hΥ => ?_) fun ys hs hmust => ⟨_, rfl, ne_row (by decide), ?_⟩⟩)))
      · have q7 : oV 7 ((wipeD ρ6 (own_law_0.map (·.2))).set 7 (some (iD i))) = some (iD i) := set_oV (by show 7 < (ρ6.set 7 none).length; rw [List.length_set, n1.len]; decide)
        refine q_or (q_eq (c_taken rfl (by decide) (by decide) fun j hj => ⟨_, rfl, ?_⟩))
        by_cases hj0 : (j : Int) = 0
        · rw [decide_eq_true hj0, if_pos rfl]
          exact hΥ true fun _ => rfl
        · rw [decide_eq_false hj0, if_neg (by decide)]
          refine q_t (e2 q7 rfl (show eqD (.int (i : Int)) (.int 0) = _ from ap_eqI _ _)) (hΥ _ fun z => ?_)
          rw [z]; rfl
      · have q7 : oV 7 ((wipeD ρ6 (own_law_0.map (·.2))).set 7 (some (iD i))) = some (iD i) := set_oV (by show 7 < (ρ6.set 7 none).length; rw [List.length_set, n1.len]; decide)
        have q6 : oV 6 ((wipeD ρ6 (own_law_0.map (·.2))).set 7 (some (iD i))) = some (hD (runs (h0 c) p')) := by
          rw [oV_ne (by decide)]
          show oV 6 (ρ6.set 7 none) = _
          rw [oV_ne (by decide)]; exact h6
        exact q_p (eL (eC q7 (eC (e2 q6 q7 (hD_get (by rw [hg.len]; exact hi))) rfl)) (ap_mkT2 _ _ rfl (toD_notL _))) (okT rfl) hΥ
      · have hne : ys ≠ [] := fun z => by
          have := hmust 0 (by omega) rfl
          rw [z] at this
          cases this
        refine hΨ _ ⟨wsOf (runs (h0 c) p') ys, wsOf_ok g hg hs hne, by rw [List.length_set]; exact n1.len, (oV_ne (by decide)).trans n1.v2, (oV_ne (by decide)).trans n1.v3, (oV_ne (by decide)).trans n1.v4, set_oV (by rw [n1.len]; decide)⟩
    · rw [decide_eq_false hi0, if_neg (by decide)]
      exact q_nx (hΨ _ ⟨ws0, hw0, n0⟩)
  have k : Wk c fs m p' ws := ⟨g, hp', hm, hw⟩
  have p8 := hp'.len
  clear n0 hw0 ws0 ρ4
  -- sure_terms
  refine q_then (q_sp (eL (eC n5.v2 (eC n5.v3 (eC n5.v4 rfl))) (F_sure_terms_ok g hp' hm)) (okT rfl) (ne_row (by decide)) ?_)
  have a8 := n5.at (i := 8) (by decide) (sureAll c m p')
  have n6 := n5.set (i := 8) (by decide) (some (sureAll c m p'))
  show wThen _ _ (ρ5.set 8 (some (sureAll c m p'))) M1 _
  generalize ρ5.set 8 (some (sureAll c m p')) = ρ6 at a8 n6
  have el : lenD (sureAll c m p') = some (.int ((p'.length : Int) + 1)) := by
    show some (PyData.int (((dps m 0 (D0 c) p').map (sureR c)).length : Int)) = _
    rw [List.length_map, (dps_at (c := c) hm p8 p' 0 (D0 c) rfl (Nat.zero_le _) (DI_start c m p')).1]
    simp
  refine q_then (q_ifF (e2 (e1 a8 el) (e2 (e1 n6.v3 (len_pD p')) rfl rfl) ((ap_neI _ _).trans (by simp))) (q_nx ?_))
  refine q_cut (fun ρ => En c m fs p' ws ρ) (fun Ψ hΨ => moments_ok k n6 a8 hΨ) fun ρ7 n7 => ?_
  -- every, bad, least
  refine q_then (q_sp (everyE hm hp' n7.v3 n7.v4) (okL (row_map lD_nd _)) (ne_row (by decide)) ?_)
  have b12 := n7.at (i := 12) (by decide) (.list ((EL m p'.length).map lD))
  have n8 := n7.set (i := 12) (by decide) (some (.list ((EL m p'.length).map lD)))
  show wThen _ _ (ρ7.set 12 (some (.list ((EL m p'.length).map lD)))) M1 _
  generalize ρ7.set 12 (some (.list ((EL m p'.length).map lD))) = ρ8 at b12 n8
  refine q_then (q_sp (badE g hp' hm k.w hw.len n8.len n8.v2 n8.v3 n8.v5 b12) (okL (row_map lD_nd _)) (ne_row (by decide)) ?_)
  have c13 := n8.at (i := 13) (by decide) (.list ((badL c m p' ws).map lD))
  have c12 : oV 12 (ρ8.set 13 (some (.list ((badL c m p' ws).map lD)))) = _ := (oV_ne (by decide)).trans b12
  have n9 := n8.set (i := 13) (by decide) (some (.list ((badL c m p' ws).map lD)))
  show wThen _ _ (ρ8.set 13 (some (.list ((badL c m p' ws).map lD)))) M1 _
  generalize ρ8.set 13 (some (.list ((badL c m p' ws).map lD))) = ρ9 at c12 c13 n9
  obtain ⟨lv, e14, hv⟩ := leastE (badL_len hm hp') n9.len c13
  refine q_then (q_sp e14 (okT rfl) (ne_row (by decide)) ?_)
  have d14 := n9.at (i := 14) (by decide) (.int (lv : Int))
  have d13 : oV 13 (ρ9.set 14 (some (.int (lv : Int)))) = _ := (oV_ne (by decide)).trans c13
  have d12 : oV 12 (ρ9.set 14 (some (.int (lv : Int)))) = _ := (oV_ne (by decide)).trans c12
  have n10 := n9.set (i := 14) (by decide) (some (.int (lv : Int)))
  show wThen _ _ (ρ9.set 14 (some (.int (lv : Int)))) M1 _
  generalize ρ9.set 14 (some (.int (lv : Int))) = ρ10 at d12 d13 d14 n10
  obtain ⟨o, ho, hh⟩ := harm_ok k
  -- is_proof
  refine q_then (q_ifF (noE (b := true) (e1 (a := .bool true) (eL (eC (eL (eC n10.v2 (eC n10.v3 (eC n10.v4 (eC n10.v5 rfl)))) (F_is_proof_ok k ho hh)) (eC (eB (e2 d13 (eL rfl ap_mkL0) (emptyE _))) rfl)) ((alike_b 11 _ _).trans (by simp))) rfl) rfl) (q_nx ?_))
  -- harm
  refine q_then (q_sp (eL (eC n10.v2 (eC n10.v3 (eC n10.v4 (eC n10.v5 rfl)))) (F_harm_ok k ho)) (okT (notL_olD o)) (ne_row (by decide)) ?_)
  have f15 := n10.at (i := 15) (by decide) (olD o)
  have f14 : oV 14 (ρ10.set 15 (some (olD o))) = _ := (oV_ne (by decide)).trans d14
  have f13 : oV 13 (ρ10.set 15 (some (olD o))) = _ := (oV_ne (by decide)).trans d13
  have f12 : oV 12 (ρ10.set 15 (some (olD o))) = _ := (oV_ne (by decide)).trans d12
  have n11 := n10.set (i := 15) (by decide) (some (olD o))
  show wThen _ _ (ρ10.set 15 (some (olD o))) M1 _
  generalize ρ10.set 15 (some (olD o)) = ρ11 at f12 f13 f14 f15 n11
  refine q_then (q_ifF (harmE hh hv hm hp' f13 f14 f15) (q_nx ?_))
  refine q_cut (fun ρ => En c m fs p' ws ρ) (fun Ψ hΨ => turns_ok k ho hh hv ⟨n11, f12, f13, f14, f15⟩ hΨ) fun ρ12 n12 => ?_
  exact tail_end k n12
end
end LL
set_option Elab.async false
set_option linter.all false
set_option maxRecDepth 100000
set_option maxHeartbeats 0
set_option autoImplicit false
/-! The head: each def as a datum, the facts of the names, the top run in the kernel (printed by gen7.py). -/
namespace LL
open PySem PySem.Spec PyProof.Rows L2

def d_is_number : He.DefD := ⟨("is_number", none), "is_number", "is_number", defArgs st_is_number, defBody st_is_number, defScope st_is_number, [], []⟩
def d_need_machine : He.DefD := ⟨("need_machine", none), "need_machine", "need_machine", defArgs st_need_machine, defBody st_need_machine, defScope st_need_machine, [], []⟩
def d_is_line : He.DefD := ⟨("is_line", none), "is_line", "is_line", defArgs st_is_line, defBody st_is_line, defScope st_is_line, [], []⟩
def d_need_program : He.DefD := ⟨("need_program", none), "need_program", "need_program", defArgs st_need_program, defBody st_need_program, defScope st_need_program, [], []⟩
def d_depth : He.DefD := ⟨("depth", none), "depth", "depth", defArgs st_depth, defBody st_depth, defScope st_depth, [], []⟩
def d_is_term : He.DefD := ⟨("is_term", none), "is_term", "is_term", defArgs st_is_term, defBody st_is_term, defScope st_is_term, [.int 8], []⟩
def d_first_terms : He.DefD := ⟨("first_terms", none), "first_terms", "first_terms", defArgs st_first_terms, defBody st_first_terms, defScope st_first_terms, [], []⟩
def d_done : He.DefD := ⟨("done", none), "done", "done", defArgs st_done, defBody st_done, defScope st_done, [], []⟩
def d_need_many : He.DefD := ⟨("need_many", none), "need_many", "need_many", defArgs st_need_many, defBody st_need_many, defScope st_need_many, [], []⟩
def d_are_losses : He.DefD := ⟨("are_losses", none), "are_losses", "are_losses", defArgs st_are_losses, defBody st_are_losses, defScope st_are_losses, [], []⟩
def d_lost_behind : He.DefD := ⟨("lost_behind", none), "lost_behind", "lost_behind", defArgs st_lost_behind, defBody st_lost_behind, defScope st_lost_behind, [], []⟩
def d_all_moments : He.DefD := ⟨("all_moments", none), "all_moments", "all_moments", defArgs st_all_moments, defBody st_all_moments, defScope st_all_moments, [], []⟩
def d_keep : He.DefD := ⟨("keep", none), "keep", "keep", defArgs st_keep, defBody st_keep, defScope st_keep, [], []⟩
def d_sure_of : He.DefD := ⟨("sure_of", none), "sure_of", "sure_of", defArgs st_sure_of, defBody st_sure_of, defScope st_sure_of, [], []⟩
def d_sure_terms : He.DefD := ⟨("sure_terms", none), "sure_terms", "sure_terms", defArgs st_sure_terms, defBody st_sure_terms, defScope st_sure_terms, [], []⟩
def d_is_wish : He.DefD := ⟨("is_wish", none), "is_wish", "is_wish", defArgs st_is_wish, defBody st_is_wish, defScope st_is_wish, [], []⟩
def d_need_wishes : He.DefD := ⟨("need_wishes", none), "need_wishes", "need_wishes", defArgs st_need_wishes, defBody st_need_wishes, defScope st_need_wishes, [], []⟩
def d_fulfilled : He.DefD := ⟨("fulfilled", none), "fulfilled", "fulfilled", defArgs st_fulfilled, defBody st_fulfilled, defScope st_fulfilled, [], []⟩
def d_need_wished : He.DefD := ⟨("need_wished", none), "need_wished", "need_wished", defArgs st_need_wished, defBody st_need_wished, defScope st_need_wished, [], []⟩
def d_least_harm : He.DefD := ⟨("least_harm", none), "least_harm", "least_harm", defArgs st_least_harm, defBody st_least_harm, defScope st_least_harm, [], []⟩
def d_is_proof : He.DefD := ⟨("is_proof", none), "is_proof", "is_proof", defArgs st_is_proof, defBody st_is_proof, defScope st_is_proof, [], []⟩
def d_harm : He.DefD := ⟨("harm", none), "harm", "harm", defArgs st_harm, defBody st_harm, defScope st_harm, [], []⟩
def d_shows_harm : He.DefD := ⟨("shows_harm", none), "shows_harm", "shows_harm", defArgs st_shows_harm, defBody st_shows_harm, defScope st_shows_harm, [], []⟩
def d_repeated_ends : He.DefD := ⟨("repeated_ends", none), "repeated_ends", "repeated_ends", defArgs st_repeated_ends, defBody st_repeated_ends, defScope st_repeated_ends, [], []⟩
def d_is_repeat_proof : He.DefD := ⟨("is_repeat_proof", none), "is_repeat_proof", "is_repeat_proof", defArgs st_is_repeat_proof, defBody st_is_repeat_proof, defScope st_is_repeat_proof, [], []⟩
def d_law_taken : He.DefD := ⟨("_law_taken", none), "_law_taken", "_law_taken", defArgs st_law_taken, defBody st_law_taken, defScope st_law_taken, [], []⟩
def d_law_machine : He.DefD := ⟨("_law_machine", none), "_law_machine", "_law_machine", defArgs st_law_machine, defBody st_law_machine, defScope st_law_machine, [], []⟩
def d_law_did : He.DefD := ⟨("_law_did", none), "_law_did", "_law_did", defArgs st_law_did, defBody st_law_did, defScope st_law_did, [], []⟩
def d_law_deep : He.DefD := ⟨("_law_deep", none), "_law_deep", "_law_deep", defArgs st_law_deep, defBody st_law_deep, defScope st_law_deep, [], []⟩
def d_law_tame : He.DefD := ⟨("_law_tame", none), "_law_tame", "_law_tame", defArgs st_law_tame, defBody st_law_tame, defScope st_law_tame, [], []⟩
def d_law_every_line : He.DefD := ⟨("_law_every_line", none), "_law_every_line", "_law_every_line", defArgs st_law_every_line, defBody st_law_every_line, defScope st_law_every_line, [], []⟩
def d_law_pick : He.DefD := ⟨("_law_pick", none), "_law_pick", "_law_pick", defArgs st_law_pick, defBody st_law_pick, defScope st_law_pick, [], []⟩
def d_law_program : He.DefD := ⟨("_law_program", none), "_law_program", "_law_program", defArgs st_law_program, defBody st_law_program, defScope st_law_program, [], []⟩
def d_law_times : He.DefD := ⟨("_law_times", none), "_law_times", "_law_times", defArgs st_law_times, defBody st_law_times, defScope st_law_times, [], []⟩
def d_law_ran : He.DefD := ⟨("_law_ran", none), "_law_ran", "_law_ran", defArgs st_law_ran, defBody st_law_ran, defScope st_law_ran, [], []⟩
def d_law_wishes : He.DefD := ⟨("_law_wishes", none), "_law_wishes", "_law_wishes", defArgs st_law_wishes, defBody st_law_wishes, defScope st_law_wishes, [], []⟩
def d_law_every_loss : He.DefD := ⟨("_law_every_loss", none), "_law_every_loss", "_law_every_loss", defArgs st_law_every_loss, defBody st_law_every_loss, defScope st_law_every_loss, [], []⟩
def d_law_alike : He.DefD := ⟨("_law_alike", none), "_law_alike", "_law_alike", defArgs st_law_alike, defBody st_law_alike, defScope st_law_alike, [], []⟩
def d_law_bad : He.DefD := ⟨("_law_bad", none), "_law_bad", "_law_bad", defArgs st_law_bad, defBody st_law_bad, defScope st_law_bad, [], []⟩
def d_law_repeats : He.DefD := ⟨("_law_repeats", none), "_law_repeats", "_law_repeats", defArgs st_law_repeats, defBody st_law_repeats, defScope st_law_repeats, [], []⟩
def d_law : He.DefD := ⟨("law", none), "law", "law", defArgs st_law, defBody st_law, defScope st_law, [], []⟩
def fn0 : List He.DefD := [d_is_number, d_need_machine, d_is_line, d_need_program, d_depth, d_is_term, d_first_terms, d_done, d_need_many, d_are_losses, d_lost_behind, d_all_moments, d_keep, d_sure_of, d_sure_terms, d_is_wish, d_need_wishes, d_fulfilled, d_need_wished, d_least_harm, d_is_proof, d_harm, d_shows_harm, d_repeated_ends, d_is_repeat_proof, d_law_taken, d_law_machine, d_law_did, d_law_deep, d_law_tame]
def fn1 : List He.DefD := [d_law_every_line, d_law_pick, d_law_program, d_law_times, d_law_ran, d_law_wishes, d_law_every_loss, d_law_alike, d_law_bad, d_law_repeats, d_law]
def fnL : List He.DefD := fn0 ++ fn1
def fa0 : List He.Fa := [.glo "is_number", .glo "need_machine", .glo "is_line", .glo "need_program", .glo "depth", .glo "is_term", .glo "first_terms", .glo "done", .glo "need_many", .glo "are_losses", .glo "lost_behind", .glo "all_moments", .glo "keep", .glo "sure_of", .glo "sure_terms", .glo "is_wish", .glo "need_wishes", .glo "fulfilled", .glo "need_wished", .glo "least_harm", .glo "is_proof", .glo "harm", .glo "shows_harm", .glo "repeated_ends", .glo "is_repeat_proof", .glo "_law_taken", .glo "_law_machine", .glo "_law_did", .glo "_law_deep", .glo "_law_tame"]
def fa1 : List He.Fa := [.glo "_law_every_line", .glo "_law_pick", .glo "_law_program", .glo "_law_times", .glo "_law_ran", .glo "_law_wishes", .glo "_law_every_loss", .glo "_law_alike", .glo "_law_bad", .glo "_law_repeats", .glo "law", .free "len", .free "max", .free "min", .free "all", .free "any", .free "tuple", .free "list", .free "range", .free "isinstance", .free "enumerate", .free "zip", .free "int", .free "bool", .free "str", .int "MOST_CELLS" 4, .int "MOST_FUNCTIONS" 3, .int "MOST_READ" 2, .int "MOST_LINES" 60, .int "MOST_DEEP" 8]
def fa2 : List He.Fa := [.int "MOST_LOST" 3, .int "MOST_PAIRS" 3000]
def faL : List He.Fa := fa0 ++ fa1 ++ fa2
def tfL : List He.Defn := [("need_machine", none), ("is_line", none), ("is_term", none), ("are_losses", none), ("fulfilled", none), ("is_repeat_proof", none), ("least_harm", none)]
def exL (K : PySem.W.Frag) : Bool := decide ((tfL.map fun p => (He.cT K p).2).Nodup)
def lo0 : List Str := ["__name__", "LinesError", "BadMachine", "BadProgram", "BadWishes", "BadNumber", "TooMany", "MOST_CELLS", "MOST_FUNCTIONS", "MOST_READ", "MOST_LINES", "MOST_DEEP", "is_number", "need_machine", "is_line", "need_program", "depth", "is_term", "first_terms", "done", "MOST_LOST", "MOST_PAIRS", "need_many", "are_losses", "lost_behind", "all_moments", "keep", "sure_of", "sure_terms", "is_wish"]
def lo1 : List Str := ["need_wishes", "fulfilled", "need_wished", "least_harm", "is_proof", "harm", "shows_harm", "repeated_ends", "is_repeat_proof", "_law_taken", "_law_machine", "_law_did", "_law_deep", "_law_tame", "_law_every_line", "_law_pick", "_law_program", "_law_times", "_law_ran", "_law_wishes", "_law_every_loss", "_law_alike", "_law_bad", "_law_repeats"]
def loL : List Str := lo0 ++ lo1
abbrev R0 : PySem.W.OpenRow := PySem.W.OpenLaw.row PySem.Challenge.rw_lostlines_k02_whole_sure
abbrev hkL : PySem.W.Hook := He.hookX 3 faL fnL [] tfL exL
def obL (s : PySem.W.SharedT) : He.AlX := He.obsX 3 faL fnL [] tfL exL (HandSHeadRun.getT s)
theorem obL_eq (s : PySem.W.SharedT) : obL s = hkL.obs s.abs := He.obsX_eq (HandSHeadRun.getT_eq s)
theorem runL (w : World) : HandSHeadRun.RunEq R0 (PySem.W.view R0.prog [57]) hkL obL 3000 loL w := by
  intro os
  kernel_rfl
end LL
set_option Elab.async false
set_option linter.all false
set_option maxRecDepth 100000
set_option maxHeartbeats 4000000
set_option autoImplicit false
/-! The end (printed by gen8.py). -/
namespace LL
open PySem PySem.Spec PyProof.Rows L2
theorem at_of {K : PySem.W.Frag} {mg : Str → Option Value} {x : Str} {st : Stmt} {fd : FuncData} (F : FunD K x x (defArgs st) (defBody st) (defScope st) [] [] (He.fAd K (x, none)) fd) (g : mg x = some (.ref (He.ga K x))) :
    ∃ D : DefAt K mg x st, D.c = He.codeOf K (x, none) ∧ D.f = He.ga K x ∧ D.fd = fd := by
  obtain ⟨oc, od, dV, kV, doc, pm, an, cdv, ct, osl, rfl, lk, hcd, dfl, _⟩ := F.ex
  rcases dfl with ⟨_, rfl⟩ | ⟨h, _⟩
  · obtain ⟨c, rfl⟩ := He.codeIn_ref hcd
    have e := He.codeOf_eq lk rfl
    exact ⟨⟨_, _, c, ⟨⟨oc, od, kV, doc, pm, an, ct, osl, rfl, lk, hcd⟩, F.kp⟩, g⟩, e.symm, rfl, rfl⟩
  · exact absurd rfl h
theorem at_ofD {K : PySem.W.Frag} {mg : Str → Option Value} {x : Str} {st : Stmt} {i : Int} {fd : FuncData} (F : FunD K x x (defArgs st) (defBody st) (defScope st) [.int i] [] (He.fAd K (x, none)) fd) (g : mg x = some (.ref (He.ga K x))) :
    ∃ D : DefAtD K mg x st i, D.c = He.codeOf K (x, none) := by
  obtain ⟨oc, od, dV, kV, doc, pm, an, cdv, ct, osl, rfl, lk, hcd, dfl, _⟩ := F.ex
  rcases dfl with ⟨h, _⟩ | ⟨_, T, o, its, n, rfl, h1, h2, h3⟩
  · cases h
  · obtain ⟨c, rfl⟩ := He.codeIn_ref hcd
    have e := He.codeOf_eq lk rfl
    cases h3 with
    | cons a b =>
      cases b
      obtain ⟨t, rfl⟩ := a
      exact ⟨⟨_, _, c, T, t, o, n, ⟨⟨oc, od, kV, doc, pm, an, ct, osl, rfl, lk, hcd⟩, F.kp⟩, g, h1, h2⟩, e.symm⟩

section
variable {K : PySem.W.Frag} {h : Heap} {mg : Str → Option Value}
theorem glo_of (KX : K.In h) (G : h.Ns mainGlobals mg) (c : He.SaysD faL fnL K) : Glo mg := ⟨He.free_ok KX G (c.fact 41 (f := .free "len") rfl),
  He.free_ok KX G (c.fact 42 (f := .free "max") rfl),
  He.free_ok KX G (c.fact 43 (f := .free "min") rfl),
  He.free_ok KX G (c.fact 44 (f := .free "all") rfl),
  He.free_ok KX G (c.fact 45 (f := .free "any") rfl),
  He.free_ok KX G (c.fact 46 (f := .free "tuple") rfl),
  He.free_ok KX G (c.fact 47 (f := .free "list") rfl),
  He.free_ok KX G (c.fact 48 (f := .free "range") rfl),
  He.free_ok KX G (c.fact 49 (f := .free "isinstance") rfl),
  He.free_ok KX G (c.fact 50 (f := .free "enumerate") rfl),
  He.free_ok KX G (c.fact 51 (f := .free "zip") rfl),
  He.free_ok KX G (c.fact 52 (f := .free "int") rfl),
  He.free_ok KX G (c.fact 53 (f := .free "bool") rfl),
  He.free_ok KX G (c.fact 54 (f := .free "str") rfl),
  He.int_ok KX G (c.fact 55 (f := .int "MOST_CELLS" 4) rfl),
  He.int_ok KX G (c.fact 56 (f := .int "MOST_FUNCTIONS" 3) rfl),
  He.int_ok KX G (c.fact 57 (f := .int "MOST_READ" 2) rfl),
  He.int_ok KX G (c.fact 58 (f := .int "MOST_LINES" 60) rfl),
  He.int_ok KX G (c.fact 59 (f := .int "MOST_DEEP" 8) rfl),
  He.int_ok KX G (c.fact 60 (f := .int "MOST_LOST" 3) rfl),
  He.int_ok KX G (c.fact 61 (f := .int "MOST_PAIRS" 3000) rfl)⟩
end
abbrev tabL (K : PySem.W.Frag) (x : Str) : Addr := (He.cT K (x, none)).2
abbrev PsL (K : PySem.W.Frag) : List Addr := tfL.map fun p => (He.cT K p).2
abbrev wdL (w : World) (K : PySem.W.Frag) : Wd := ⟨w, tabL K "least_harm", (Str.ofString "least_harm.<locals>.") ++ "<lambda>"⟩
theorem nd_ne {K : PySem.W.Frag} (h : exL K = true) {i j : Nat} {p q : He.Defn} (hi : tfL[i]? = some p) (hj : tfL[j]? = some q) (hij : i ≠ j) : (He.cT K p).2 ≠ (He.cT K q).2 := fun z => by
  have h : (PsL K).Nodup := of_decide_eq_true h
  have e1 : (PsL K)[i]? = some (He.cT K p).2 := by
    show (tfL.map fun p => (He.cT K p).2)[i]? = _
    rw [List.getElem?_map, hi]; rfl
  have e2 : (PsL K)[j]? = some (He.cT K q).2 := by
    show (tfL.map fun p => (He.cT K p).2)[j]? = _
    rw [List.getElem?_map, hj]; rfl
  obtain ⟨b1, _⟩ := List.getElem?_eq_some_iff.mp e1
  exact hij ((List.getElem?_inj b1 h).mp (e1.trans (by rw [z, e2])))
theorem lawAt {w : World} {mg : Str → Option Value} {fa : Addr} {h : Heap} (Y : hkL.says w h) (N : h.Ns mainGlobals mg) (hmg : mg "law" = some (.ref fa)) :
    ∃ K : PySem.W.Frag, K.In h ∧ LamX.LawAtS PySem.Challenge.rw_lostlines_k02_whole_sure w K CX0 25 63 "_law_script" mg fa h := by
  obtain ⟨K, KX, sx⟩ := Y
  have c : He.SaysD faL fnL K := sx.t.d
  have G := glo_of KX N c
  letI : Wd := wdL w K
  obtain ⟨fd_is_number, F_is_number'⟩ := c.def_ 0 (d := d_is_number) rfl
  obtain ⟨D_is_number, c_is_number, a_is_number, e_is_number⟩ := at_of (x := "is_number") (st := st_is_number) F_is_number' (He.glo_ok KX N (c.fact 0 (f := .glo "is_number") rfl))
  obtain ⟨fd_need_machine, F_need_machine'⟩ := c.def_ 1 (d := d_need_machine) rfl
  obtain ⟨D_need_machine, c_need_machine, a_need_machine, e_need_machine⟩ := at_of (x := "need_machine") (st := st_need_machine) F_need_machine' (He.glo_ok KX N (c.fact 1 (f := .glo "need_machine") rfl))
  obtain ⟨fd_is_line, F_is_line'⟩ := c.def_ 2 (d := d_is_line) rfl
  obtain ⟨D_is_line, c_is_line, a_is_line, e_is_line⟩ := at_of (x := "is_line") (st := st_is_line) F_is_line' (He.glo_ok KX N (c.fact 2 (f := .glo "is_line") rfl))
  obtain ⟨fd_need_program, F_need_program'⟩ := c.def_ 3 (d := d_need_program) rfl
  obtain ⟨D_need_program, c_need_program, a_need_program, e_need_program⟩ := at_of (x := "need_program") (st := st_need_program) F_need_program' (He.glo_ok KX N (c.fact 3 (f := .glo "need_program") rfl))
  obtain ⟨fd_depth, F_depth'⟩ := c.def_ 4 (d := d_depth) rfl
  obtain ⟨D_depth, c_depth, a_depth, e_depth⟩ := at_of (x := "depth") (st := st_depth) F_depth' (He.glo_ok KX N (c.fact 4 (f := .glo "depth") rfl))
  obtain ⟨fd_is_term, F_is_term'⟩ := c.def_ 5 (d := d_is_term) rfl
  obtain ⟨D_is_term, c_is_term⟩ := at_ofD (x := "is_term") (st := st_is_term) (i := 8) F_is_term' (He.glo_ok KX N (c.fact 5 (f := .glo "is_term") rfl))
  obtain ⟨fd_first_terms, F_first_terms'⟩ := c.def_ 6 (d := d_first_terms) rfl
  obtain ⟨D_first_terms, c_first_terms, a_first_terms, e_first_terms⟩ := at_of (x := "first_terms") (st := st_first_terms) F_first_terms' (He.glo_ok KX N (c.fact 6 (f := .glo "first_terms") rfl))
  obtain ⟨fd_done, F_done'⟩ := c.def_ 7 (d := d_done) rfl
  obtain ⟨D_done, c_done, a_done, e_done⟩ := at_of (x := "done") (st := st_done) F_done' (He.glo_ok KX N (c.fact 7 (f := .glo "done") rfl))
  obtain ⟨fd_need_many, F_need_many'⟩ := c.def_ 8 (d := d_need_many) rfl
  obtain ⟨D_need_many, c_need_many, a_need_many, e_need_many⟩ := at_of (x := "need_many") (st := st_need_many) F_need_many' (He.glo_ok KX N (c.fact 8 (f := .glo "need_many") rfl))
  obtain ⟨fd_are_losses, F_are_losses'⟩ := c.def_ 9 (d := d_are_losses) rfl
  obtain ⟨D_are_losses, c_are_losses, a_are_losses, e_are_losses⟩ := at_of (x := "are_losses") (st := st_are_losses) F_are_losses' (He.glo_ok KX N (c.fact 9 (f := .glo "are_losses") rfl))
  obtain ⟨fd_lost_behind, F_lost_behind'⟩ := c.def_ 10 (d := d_lost_behind) rfl
  obtain ⟨D_lost_behind, c_lost_behind, a_lost_behind, e_lost_behind⟩ := at_of (x := "lost_behind") (st := st_lost_behind) F_lost_behind' (He.glo_ok KX N (c.fact 10 (f := .glo "lost_behind") rfl))
  obtain ⟨fd_all_moments, F_all_moments'⟩ := c.def_ 11 (d := d_all_moments) rfl
  obtain ⟨D_all_moments, c_all_moments, a_all_moments, e_all_moments⟩ := at_of (x := "all_moments") (st := st_all_moments) F_all_moments' (He.glo_ok KX N (c.fact 11 (f := .glo "all_moments") rfl))
  obtain ⟨fd_keep, F_keep'⟩ := c.def_ 12 (d := d_keep) rfl
  obtain ⟨D_keep, c_keep, a_keep, e_keep⟩ := at_of (x := "keep") (st := st_keep) F_keep' (He.glo_ok KX N (c.fact 12 (f := .glo "keep") rfl))
  obtain ⟨fd_sure_of, F_sure_of'⟩ := c.def_ 13 (d := d_sure_of) rfl
  obtain ⟨D_sure_of, c_sure_of, a_sure_of, e_sure_of⟩ := at_of (x := "sure_of") (st := st_sure_of) F_sure_of' (He.glo_ok KX N (c.fact 13 (f := .glo "sure_of") rfl))
  obtain ⟨fd_sure_terms, F_sure_terms'⟩ := c.def_ 14 (d := d_sure_terms) rfl
  obtain ⟨D_sure_terms, c_sure_terms, a_sure_terms, e_sure_terms⟩ := at_of (x := "sure_terms") (st := st_sure_terms) F_sure_terms' (He.glo_ok KX N (c.fact 14 (f := .glo "sure_terms") rfl))
  obtain ⟨fd_is_wish, F_is_wish'⟩ := c.def_ 15 (d := d_is_wish) rfl
  obtain ⟨D_is_wish, c_is_wish, a_is_wish, e_is_wish⟩ := at_of (x := "is_wish") (st := st_is_wish) F_is_wish' (He.glo_ok KX N (c.fact 15 (f := .glo "is_wish") rfl))
  obtain ⟨fd_need_wishes, F_need_wishes'⟩ := c.def_ 16 (d := d_need_wishes) rfl
  obtain ⟨D_need_wishes, c_need_wishes, a_need_wishes, e_need_wishes⟩ := at_of (x := "need_wishes") (st := st_need_wishes) F_need_wishes' (He.glo_ok KX N (c.fact 16 (f := .glo "need_wishes") rfl))
  obtain ⟨fd_fulfilled, F_fulfilled'⟩ := c.def_ 17 (d := d_fulfilled) rfl
  obtain ⟨D_fulfilled, c_fulfilled, a_fulfilled, e_fulfilled⟩ := at_of (x := "fulfilled") (st := st_fulfilled) F_fulfilled' (He.glo_ok KX N (c.fact 17 (f := .glo "fulfilled") rfl))
  obtain ⟨fd_need_wished, F_need_wished'⟩ := c.def_ 18 (d := d_need_wished) rfl
  obtain ⟨D_need_wished, c_need_wished, a_need_wished, e_need_wished⟩ := at_of (x := "need_wished") (st := st_need_wished) F_need_wished' (He.glo_ok KX N (c.fact 18 (f := .glo "need_wished") rfl))
  obtain ⟨fd_least_harm, F_least_harm'⟩ := c.def_ 19 (d := d_least_harm) rfl
  obtain ⟨D_least_harm, c_least_harm, a_least_harm, e_least_harm⟩ := at_of (x := "least_harm") (st := st_least_harm) F_least_harm' (He.glo_ok KX N (c.fact 19 (f := .glo "least_harm") rfl))
  obtain ⟨fd_is_proof, F_is_proof'⟩ := c.def_ 20 (d := d_is_proof) rfl
  obtain ⟨D_is_proof, c_is_proof, a_is_proof, e_is_proof⟩ := at_of (x := "is_proof") (st := st_is_proof) F_is_proof' (He.glo_ok KX N (c.fact 20 (f := .glo "is_proof") rfl))
  obtain ⟨fd_harm, F_harm'⟩ := c.def_ 21 (d := d_harm) rfl
  obtain ⟨D_harm, c_harm, a_harm, e_harm⟩ := at_of (x := "harm") (st := st_harm) F_harm' (He.glo_ok KX N (c.fact 21 (f := .glo "harm") rfl))
  obtain ⟨fd_shows_harm, F_shows_harm'⟩ := c.def_ 22 (d := d_shows_harm) rfl
  obtain ⟨D_shows_harm, c_shows_harm, a_shows_harm, e_shows_harm⟩ := at_of (x := "shows_harm") (st := st_shows_harm) F_shows_harm' (He.glo_ok KX N (c.fact 22 (f := .glo "shows_harm") rfl))
  obtain ⟨fd_repeated_ends, F_repeated_ends'⟩ := c.def_ 23 (d := d_repeated_ends) rfl
  obtain ⟨D_repeated_ends, c_repeated_ends, a_repeated_ends, e_repeated_ends⟩ := at_of (x := "repeated_ends") (st := st_repeated_ends) F_repeated_ends' (He.glo_ok KX N (c.fact 23 (f := .glo "repeated_ends") rfl))
  obtain ⟨fd_is_repeat_proof, F_is_repeat_proof'⟩ := c.def_ 24 (d := d_is_repeat_proof) rfl
  obtain ⟨D_is_repeat_proof, c_is_repeat_proof, a_is_repeat_proof, e_is_repeat_proof⟩ := at_of (x := "is_repeat_proof") (st := st_is_repeat_proof) F_is_repeat_proof' (He.glo_ok KX N (c.fact 24 (f := .glo "is_repeat_proof") rfl))
  obtain ⟨fd_law_taken, F_law_taken'⟩ := c.def_ 25 (d := d_law_taken) rfl
  obtain ⟨D_law_taken, c_law_taken, a_law_taken, e_law_taken⟩ := at_of (x := "_law_taken") (st := st_law_taken) F_law_taken' (He.glo_ok KX N (c.fact 25 (f := .glo "_law_taken") rfl))
  obtain ⟨fd_law_machine, F_law_machine'⟩ := c.def_ 26 (d := d_law_machine) rfl
  obtain ⟨D_law_machine, c_law_machine, a_law_machine, e_law_machine⟩ := at_of (x := "_law_machine") (st := st_law_machine) F_law_machine' (He.glo_ok KX N (c.fact 26 (f := .glo "_law_machine") rfl))
  obtain ⟨fd_law_did, F_law_did'⟩ := c.def_ 27 (d := d_law_did) rfl
  obtain ⟨D_law_did, c_law_did, a_law_did, e_law_did⟩ := at_of (x := "_law_did") (st := st_law_did) F_law_did' (He.glo_ok KX N (c.fact 27 (f := .glo "_law_did") rfl))
  obtain ⟨fd_law_deep, F_law_deep'⟩ := c.def_ 28 (d := d_law_deep) rfl
  obtain ⟨D_law_deep, c_law_deep, a_law_deep, e_law_deep⟩ := at_of (x := "_law_deep") (st := st_law_deep) F_law_deep' (He.glo_ok KX N (c.fact 28 (f := .glo "_law_deep") rfl))
  obtain ⟨fd_law_tame, F_law_tame'⟩ := c.def_ 29 (d := d_law_tame) rfl
  obtain ⟨D_law_tame, c_law_tame, a_law_tame, e_law_tame⟩ := at_of (x := "_law_tame") (st := st_law_tame) F_law_tame' (He.glo_ok KX N (c.fact 29 (f := .glo "_law_tame") rfl))
  obtain ⟨fd_law_every_line, F_law_every_line'⟩ := c.def_ 30 (d := d_law_every_line) rfl
  obtain ⟨D_law_every_line, c_law_every_line, a_law_every_line, e_law_every_line⟩ := at_of (x := "_law_every_line") (st := st_law_every_line) F_law_every_line' (He.glo_ok KX N (c.fact 30 (f := .glo "_law_every_line") rfl))
  obtain ⟨fd_law_pick, F_law_pick'⟩ := c.def_ 31 (d := d_law_pick) rfl
  obtain ⟨D_law_pick, c_law_pick, a_law_pick, e_law_pick⟩ := at_of (x := "_law_pick") (st := st_law_pick) F_law_pick' (He.glo_ok KX N (c.fact 31 (f := .glo "_law_pick") rfl))
  obtain ⟨fd_law_program, F_law_program'⟩ := c.def_ 32 (d := d_law_program) rfl
  obtain ⟨D_law_program, c_law_program, a_law_program, e_law_program⟩ := at_of (x := "_law_program") (st := st_law_program) F_law_program' (He.glo_ok KX N (c.fact 32 (f := .glo "_law_program") rfl))
  obtain ⟨fd_law_times, F_law_times'⟩ := c.def_ 33 (d := d_law_times) rfl
  obtain ⟨D_law_times, c_law_times, a_law_times, e_law_times⟩ := at_of (x := "_law_times") (st := st_law_times) F_law_times' (He.glo_ok KX N (c.fact 33 (f := .glo "_law_times") rfl))
  obtain ⟨fd_law_ran, F_law_ran'⟩ := c.def_ 34 (d := d_law_ran) rfl
  obtain ⟨D_law_ran, c_law_ran, a_law_ran, e_law_ran⟩ := at_of (x := "_law_ran") (st := st_law_ran) F_law_ran' (He.glo_ok KX N (c.fact 34 (f := .glo "_law_ran") rfl))
  obtain ⟨fd_law_wishes, F_law_wishes'⟩ := c.def_ 35 (d := d_law_wishes) rfl
  obtain ⟨D_law_wishes, c_law_wishes, a_law_wishes, e_law_wishes⟩ := at_of (x := "_law_wishes") (st := st_law_wishes) F_law_wishes' (He.glo_ok KX N (c.fact 35 (f := .glo "_law_wishes") rfl))
  obtain ⟨fd_law_every_loss, F_law_every_loss'⟩ := c.def_ 36 (d := d_law_every_loss) rfl
  obtain ⟨D_law_every_loss, c_law_every_loss, a_law_every_loss, e_law_every_loss⟩ := at_of (x := "_law_every_loss") (st := st_law_every_loss) F_law_every_loss' (He.glo_ok KX N (c.fact 36 (f := .glo "_law_every_loss") rfl))
  obtain ⟨fd_law_alike, F_law_alike'⟩ := c.def_ 37 (d := d_law_alike) rfl
  obtain ⟨D_law_alike, c_law_alike, a_law_alike, e_law_alike⟩ := at_of (x := "_law_alike") (st := st_law_alike) F_law_alike' (He.glo_ok KX N (c.fact 37 (f := .glo "_law_alike") rfl))
  obtain ⟨fd_law_bad, F_law_bad'⟩ := c.def_ 38 (d := d_law_bad) rfl
  obtain ⟨D_law_bad, c_law_bad, a_law_bad, e_law_bad⟩ := at_of (x := "_law_bad") (st := st_law_bad) F_law_bad' (He.glo_ok KX N (c.fact 38 (f := .glo "_law_bad") rfl))
  obtain ⟨fd_law_repeats, F_law_repeats'⟩ := c.def_ 39 (d := d_law_repeats) rfl
  obtain ⟨D_law_repeats, c_law_repeats, a_law_repeats, e_law_repeats⟩ := at_of (x := "_law_repeats") (st := st_law_repeats) F_law_repeats' (He.glo_ok KX N (c.fact 39 (f := .glo "_law_repeats") rfl))
  obtain ⟨fd_law, F_law'⟩ := c.def_ 40 (d := d_law) rfl
  obtain ⟨D_law, c_law, a_law, e_law⟩ := at_of (x := "law") (st := st_law) F_law' (He.glo_ok KX N (c.fact 40 (f := .glo "law") rfl))
  have hfa : D_law.f = fa := by
    have := D_law.m.symm.trans hmg
    cases this; rfl
  have bnd := FunD.bindsA (ps := ["_law_script"]) F_law' fun _ _ _ _ _ _ us hl => match us, hl with | [_], _ => rfl
  refine ⟨K, KX, fd_law, tfL.map (He.cT K), spLaw K (PsL K), fun p hp => ?_, fun p hp => ?_, fun p hp => ?_, fun s u => bnd s [u] rfl, fun H a ns _ _ hH hS => ?_, fun base hB hN hT => ?_⟩
  · obtain ⟨q, hq, rfl⟩ := List.mem_map.mp hp
    exact sx.empty q hq
  · obtain ⟨q, hq, rfl⟩ := List.mem_map.mp hp
    exact sx.out q hq
  · obtain ⟨q, hq, rfl⟩ := List.mem_map.mp hp
    exact PySem.W.codeHd_of_K KX (sx.hd q hq)
  · refine ⟨a, ns, rfl, hS, ⟨fun P hP => ?_, ?_, fun ps hps pos cv hc => ?_⟩, fun _ => rfl⟩
    · obtain ⟨q, hq, rfl⟩ := List.mem_map.mp hP
      exact ⟨#[], hH _ (List.mem_map.mpr ⟨q, hq, rfl⟩), True.intro⟩
    · exact List.mem_map.mpr ⟨("least_harm", none), List.mem_of_getElem? (i := 6) rfl, rfl⟩
    · have e := hH (He.cT K ("least_harm", none)) (List.mem_map.mpr ⟨("least_harm", none), List.mem_of_getElem? (i := 6) rfl, rfl⟩)
      have e2 : H (He.cT K ("least_harm", none)).2 = some (.tbl ps) := hps
      rw [e] at e2
      cases e2
      cases hc
  have TB_need_machine : LamX.TabB base mg D_need_machine.c (tabL K "need_machine") := by
    rw [c_need_machine]
    exact hT (He.cT K ("need_machine", none)) (List.mem_map.mpr ⟨("need_machine", none), List.mem_of_getElem? (i := 0) rfl, rfl⟩)
  have hP_need_machine : tabL K "need_machine" ∈ PsL K := List.mem_map.mpr ⟨("need_machine", none), List.mem_of_getElem? (i := 0) rfl, rfl⟩
  have hPl_need_machine : tabL K "need_machine" ≠ Wd.lamP := nd_ne sx.more (i := 0) (j := 6) (p := ("need_machine", none)) (q := ("least_harm", none)) rfl rfl (by decide)
  have TB_is_line : LamX.TabB base mg D_is_line.c (tabL K "is_line") := by
    rw [c_is_line]
    exact hT (He.cT K ("is_line", none)) (List.mem_map.mpr ⟨("is_line", none), List.mem_of_getElem? (i := 1) rfl, rfl⟩)
  have hP_is_line : tabL K "is_line" ∈ PsL K := List.mem_map.mpr ⟨("is_line", none), List.mem_of_getElem? (i := 1) rfl, rfl⟩
  have hPl_is_line : tabL K "is_line" ≠ Wd.lamP := nd_ne sx.more (i := 1) (j := 6) (p := ("is_line", none)) (q := ("least_harm", none)) rfl rfl (by decide)
  have TB_is_term : LamX.TabB base mg D_is_term.c (tabL K "is_term") := by
    rw [c_is_term]
    exact hT (He.cT K ("is_term", none)) (List.mem_map.mpr ⟨("is_term", none), List.mem_of_getElem? (i := 2) rfl, rfl⟩)
  have hP_is_term : tabL K "is_term" ∈ PsL K := List.mem_map.mpr ⟨("is_term", none), List.mem_of_getElem? (i := 2) rfl, rfl⟩
  have hPl_is_term : tabL K "is_term" ≠ Wd.lamP := nd_ne sx.more (i := 2) (j := 6) (p := ("is_term", none)) (q := ("least_harm", none)) rfl rfl (by decide)
  have TB_are_losses : LamX.TabB base mg D_are_losses.c (tabL K "are_losses") := by
    rw [c_are_losses]
    exact hT (He.cT K ("are_losses", none)) (List.mem_map.mpr ⟨("are_losses", none), List.mem_of_getElem? (i := 3) rfl, rfl⟩)
  have hP_are_losses : tabL K "are_losses" ∈ PsL K := List.mem_map.mpr ⟨("are_losses", none), List.mem_of_getElem? (i := 3) rfl, rfl⟩
  have hPl_are_losses : tabL K "are_losses" ≠ Wd.lamP := nd_ne sx.more (i := 3) (j := 6) (p := ("are_losses", none)) (q := ("least_harm", none)) rfl rfl (by decide)
  have TB_fulfilled : LamX.TabB base mg D_fulfilled.c (tabL K "fulfilled") := by
    rw [c_fulfilled]
    exact hT (He.cT K ("fulfilled", none)) (List.mem_map.mpr ⟨("fulfilled", none), List.mem_of_getElem? (i := 4) rfl, rfl⟩)
  have hP_fulfilled : tabL K "fulfilled" ∈ PsL K := List.mem_map.mpr ⟨("fulfilled", none), List.mem_of_getElem? (i := 4) rfl, rfl⟩
  have hPl_fulfilled : tabL K "fulfilled" ≠ Wd.lamP := nd_ne sx.more (i := 4) (j := 6) (p := ("fulfilled", none)) (q := ("least_harm", none)) rfl rfl (by decide)
  have TB_is_repeat_proof : LamX.TabB base mg D_is_repeat_proof.c (tabL K "is_repeat_proof") := by
    rw [c_is_repeat_proof]
    exact hT (He.cT K ("is_repeat_proof", none)) (List.mem_map.mpr ⟨("is_repeat_proof", none), List.mem_of_getElem? (i := 5) rfl, rfl⟩)
  have hP_is_repeat_proof : tabL K "is_repeat_proof" ∈ PsL K := List.mem_map.mpr ⟨("is_repeat_proof", none), List.mem_of_getElem? (i := 5) rfl, rfl⟩
  have hPl_is_repeat_proof : tabL K "is_repeat_proof" ≠ Wd.lamP := nd_ne sx.more (i := 5) (j := 6) (p := ("is_repeat_proof", none)) (q := ("least_harm", none)) rfl rfl (by decide)
  have TB_least_harm : LamX.TabB base mg D_least_harm.c (tabL K "least_harm") := by
    rw [c_least_harm]
    exact hT (He.cT K ("least_harm", none)) (List.mem_map.mpr ⟨("least_harm", none), List.mem_of_getElem? (i := 6) rfl, rfl⟩)
  have h_is_number := ok_is_number (P := PySem.Challenge.rw_lostlines_k02_whole_sure.prog) (w := w) (K := K) (mg := mg) (base := base) (Ps := PsL K) G (rfl : w = Wd.w) D_is_number
  have h_need_machine := ok_need_machine (P := PySem.Challenge.rw_lostlines_k02_whole_sure.prog) (w := w) (K := K) (mg := mg) (base := base) (Ps := PsL K) G (rfl : w = Wd.w) D_need_machine TB_need_machine hP_need_machine hPl_need_machine D_is_number h_is_number
  have h_is_line := ok_is_line (P := PySem.Challenge.rw_lostlines_k02_whole_sure.prog) (w := w) (K := K) (mg := mg) (base := base) (Ps := PsL K) G (rfl : w = Wd.w) D_is_line TB_is_line hP_is_line hPl_is_line D_is_number h_is_number
  have h_need_program := ok_need_program (P := PySem.Challenge.rw_lostlines_k02_whole_sure.prog) (w := w) (K := K) (mg := mg) (base := base) (Ps := PsL K) G (rfl : w = Wd.w) D_need_program D_is_line h_is_line
  have h_need_many := ok_need_many (P := PySem.Challenge.rw_lostlines_k02_whole_sure.prog) (w := w) (K := K) (mg := mg) (base := base) (Ps := PsL K) G (rfl : w = Wd.w) D_need_many D_is_number h_is_number
  have h_first_terms := ok_first_terms (P := PySem.Challenge.rw_lostlines_k02_whole_sure.prog) (w := w) (K := K) (mg := mg) (base := base) (Ps := PsL K) G (rfl : w = Wd.w) D_first_terms
  have h_depth := ok_depth (P := PySem.Challenge.rw_lostlines_k02_whole_sure.prog) (w := w) (K := K) (mg := mg) (base := base) (Ps := PsL K) G (rfl : w = Wd.w) D_depth 12
  have h_done := ok_done (P := PySem.Challenge.rw_lostlines_k02_whole_sure.prog) (w := w) (K := K) (mg := mg) (base := base) (Ps := PsL K) G (rfl : w = Wd.w) D_done D_depth h_depth
  have h_keep := ok_keep (P := PySem.Challenge.rw_lostlines_k02_whole_sure.prog) (w := w) (K := K) (mg := mg) (base := base) (Ps := PsL K) G (rfl : w = Wd.w) D_keep
  have h_all_moments := (ok_all_moments (P := PySem.Challenge.rw_lostlines_k02_whole_sure.prog) (w := w) (K := K) (mg := mg) (base := base) (Ps := PsL K) G (rfl : w = Wd.w) D_all_moments D_first_terms h_first_terms D_done h_done D_keep h_keep).mono (show 14 ≤ 20 by decide)
  have h_sure_of := ok_sure_of (P := PySem.Challenge.rw_lostlines_k02_whole_sure.prog) (w := w) (K := K) (mg := mg) (base := base) (Ps := PsL K) G (rfl : w = Wd.w) D_sure_of
  have h_sure_terms := ok_sure_terms (P := PySem.Challenge.rw_lostlines_k02_whole_sure.prog) (w := w) (K := K) (mg := mg) (base := base) (Ps := PsL K) G (rfl : w = Wd.w) D_sure_terms D_need_machine h_need_machine D_need_program h_need_program D_need_many h_need_many D_all_moments h_all_moments D_sure_of h_sure_of
  have h_is_term := ok_is_term (P := PySem.Challenge.rw_lostlines_k02_whole_sure.prog) (w := w) (K := K) (mg := mg) (base := base) (Ps := PsL K) G (rfl : w = Wd.w) D_is_term TB_is_term hP_is_term hPl_is_term D_is_number h_is_number 9
  have h_is_wish := ok_is_wish (P := PySem.Challenge.rw_lostlines_k02_whole_sure.prog) (w := w) (K := K) (mg := mg) (base := base) (Ps := PsL K) G (rfl : w = Wd.w) D_is_wish D_is_number h_is_number D_is_term h_is_term
  have h_need_wishes := ok_need_wishes (P := PySem.Challenge.rw_lostlines_k02_whole_sure.prog) (w := w) (K := K) (mg := mg) (base := base) (Ps := PsL K) G (rfl : w = Wd.w) D_need_wishes D_is_wish h_is_wish
  have h_need_wished := ok_need_wished (P := PySem.Challenge.rw_lostlines_k02_whole_sure.prog) (w := w) (K := K) (mg := mg) (base := base) (Ps := PsL K) G (rfl : w = Wd.w) D_need_wished D_need_machine h_need_machine D_need_program h_need_program D_need_many h_need_many D_need_wishes h_need_wishes
  have h_fulfilled := ok_fulfilled (P := PySem.Challenge.rw_lostlines_k02_whole_sure.prog) (w := w) (K := K) (mg := mg) (base := base) (Ps := PsL K) G (rfl : w = Wd.w) D_fulfilled TB_fulfilled hP_fulfilled hPl_fulfilled
  have h_least_harm := ok_least_harm (P := PySem.Challenge.rw_lostlines_k02_whole_sure.prog) (w := w) (K := K) (mg := mg) (base := base) (Ps := PsL K) G (rfl : w = Wd.w) D_least_harm TB_least_harm rfl D_all_moments h_all_moments D_fulfilled h_fulfilled
  have h_is_proof := ok_is_proof (P := PySem.Challenge.rw_lostlines_k02_whole_sure.prog) (w := w) (K := K) (mg := mg) (base := base) (Ps := PsL K) G (rfl : w = Wd.w) D_is_proof D_need_wished h_need_wished D_least_harm h_least_harm
  have h_harm := ok_harm (P := PySem.Challenge.rw_lostlines_k02_whole_sure.prog) (w := w) (K := K) (mg := mg) (base := base) (Ps := PsL K) G (rfl : w = Wd.w) D_harm D_need_wished h_need_wished D_least_harm h_least_harm
  have h_are_losses := ok_are_losses (P := PySem.Challenge.rw_lostlines_k02_whole_sure.prog) (w := w) (K := K) (mg := mg) (base := base) (Ps := PsL K) G (rfl : w = Wd.w) D_are_losses TB_are_losses hP_are_losses hPl_are_losses D_is_number h_is_number
  have h_lost_behind := ok_lost_behind (P := PySem.Challenge.rw_lostlines_k02_whole_sure.prog) (w := w) (K := K) (mg := mg) (base := base) (Ps := PsL K) G (rfl : w = Wd.w) D_lost_behind D_done h_done
  have h_shows_harm := ok_shows_harm (P := PySem.Challenge.rw_lostlines_k02_whole_sure.prog) (w := w) (K := K) (mg := mg) (base := base) (Ps := PsL K) G (rfl : w = Wd.w) D_shows_harm D_first_terms h_first_terms D_are_losses h_are_losses D_lost_behind h_lost_behind D_fulfilled h_fulfilled D_need_wished h_need_wished D_least_harm h_least_harm
  have h_repeated_ends := (ok_repeated_ends (P := PySem.Challenge.rw_lostlines_k02_whole_sure.prog) (w := w) (K := K) (mg := mg) (base := base) (Ps := PsL K) G (rfl : w = Wd.w) D_repeated_ends D_first_terms h_first_terms D_done h_done).mono (show 14 ≤ 20 by decide)
  have h_is_repeat_proof := ok_is_repeat_proof (P := PySem.Challenge.rw_lostlines_k02_whole_sure.prog) (w := w) (K := K) (mg := mg) (base := base) (Ps := PsL K) G (rfl : w = Wd.w) D_is_repeat_proof TB_is_repeat_proof hP_is_repeat_proof hPl_is_repeat_proof D_fulfilled h_fulfilled D_need_wished h_need_wished D_repeated_ends h_repeated_ends
  have h_law_taken := LL.FnOk.imp (ok_law_taken (P := PySem.Challenge.rw_lostlines_k02_whole_sure.prog) (w := w) (K := K) (mg := mg) (base := base) (Ps := PsL K) G D_law_taken) taken_spR
  have h_law_machine := ok_law_machine (P := PySem.Challenge.rw_lostlines_k02_whole_sure.prog) (w := w) (K := K) (mg := mg) (base := base) (Ps := PsL K) G (rfl : w = Wd.w) D_law_machine D_law_taken h_law_taken
  have h_law_deep := ok_law_deep (P := PySem.Challenge.rw_lostlines_k02_whole_sure.prog) (w := w) (K := K) (mg := mg) (base := base) (Ps := PsL K) G (rfl : w = Wd.w) D_law_deep 12
  have h_law_did := ok_law_did (P := PySem.Challenge.rw_lostlines_k02_whole_sure.prog) (w := w) (K := K) (mg := mg) (base := base) (Ps := PsL K) G (rfl : w = Wd.w) D_law_did
  have h_law_tame := ok_law_tame (P := PySem.Challenge.rw_lostlines_k02_whole_sure.prog) (w := w) (K := K) (mg := mg) (base := base) (Ps := PsL K) G (rfl : w = Wd.w) D_law_tame D_law_did h_law_did D_law_deep h_law_deep
  have h_law_pick := ok_law_pick (P := PySem.Challenge.rw_lostlines_k02_whole_sure.prog) (w := w) (K := K) (mg := mg) (base := base) (Ps := PsL K) G (rfl : w = Wd.w) D_law_pick D_law_taken h_law_taken
  have h_law_every_line := ok_law_every_line (P := PySem.Challenge.rw_lostlines_k02_whole_sure.prog) (w := w) (K := K) (mg := mg) (base := base) (Ps := PsL K) G (rfl : w = Wd.w) D_law_every_line
  have h_law_program := ok_law_program (P := PySem.Challenge.rw_lostlines_k02_whole_sure.prog) (w := w) (K := K) (mg := mg) (base := base) (Ps := PsL K) G (rfl : w = Wd.w) D_law_program D_law_taken h_law_taken D_law_every_line h_law_every_line D_law_pick h_law_pick
  have h_law_times := ok_law_times (P := PySem.Challenge.rw_lostlines_k02_whole_sure.prog) (w := w) (K := K) (mg := mg) (base := base) (Ps := PsL K) G (rfl : w = Wd.w) D_law_times
  have h_law_ran := ok_law_ran (P := PySem.Challenge.rw_lostlines_k02_whole_sure.prog) (w := w) (K := K) (mg := mg) (base := base) (Ps := PsL K) G (rfl : w = Wd.w) D_law_ran D_law_did h_law_did D_law_deep h_law_deep
  have h_law_wishes := ok_law_wishes (P := PySem.Challenge.rw_lostlines_k02_whole_sure.prog) (w := w) (K := K) (mg := mg) (base := base) (Ps := PsL K) G (rfl : w = Wd.w) D_law_wishes D_law_taken h_law_taken D_law_tame h_law_tame D_law_pick h_law_pick D_law_program h_law_program D_law_ran h_law_ran
  have h_law_every_loss := ok_law_every_loss (P := PySem.Challenge.rw_lostlines_k02_whole_sure.prog) (w := w) (K := K) (mg := mg) (base := base) (Ps := PsL K) G (rfl : w = Wd.w) D_law_every_loss
  have h_law_alike := ok_law_alike (P := PySem.Challenge.rw_lostlines_k02_whole_sure.prog) (w := w) (K := K) (mg := mg) (base := base) (Ps := PsL K) G (rfl : w = Wd.w) D_law_alike 12
  have h_law_bad := ok_law_bad (P := PySem.Challenge.rw_lostlines_k02_whole_sure.prog) (w := w) (K := K) (mg := mg) (base := base) (Ps := PsL K) G (rfl : w = Wd.w) D_law_bad D_law_ran h_law_ran
  have h_law_repeats := ok_law_repeats (P := PySem.Challenge.rw_lostlines_k02_whole_sure.prog) (w := w) (K := K) (mg := mg) (base := base) (Ps := PsL K) G (rfl : w = Wd.w) D_law_repeats D_law_did h_law_did
  have h_law := ok_law (P := PySem.Challenge.rw_lostlines_k02_whole_sure.prog) (w := w) (K := K) (mg := mg) (base := base) (Ps := PsL K) G (rfl : w = Wd.w) D_law D_sure_terms h_sure_terms D_is_proof h_is_proof D_harm h_harm D_shows_harm h_shows_harm D_is_repeat_proof h_is_repeat_proof D_law_taken h_law_taken D_law_machine h_law_machine D_law_deep h_law_deep D_law_tame h_law_tame D_law_pick h_law_pick D_law_program h_law_program D_law_times h_law_times D_law_ran h_law_ran D_law_wishes h_law_wishes D_law_every_loss h_law_every_loss D_law_alike h_law_alike D_law_bad h_law_bad D_law_repeats h_law_repeats law_plain
  rw [hfa, e_law] at h_law
  exact h_law
end LL
open PySem PySem.W PySem.Calls PyProof.Rows
theorem PySem.Challenge.cw_lostlines_k02_whole_sure_holds : PySem.Challenge.rw_lostlines_k02_whole_sure.Holds := by
  w_on; o_law
  refine HandSHeadRun.head_any (r := LL.R0) (q := view LL.R0.prog [57]) (H := LL.hkL) (ob := LL.obL) (M := 3000) (loose := LL.loL) (d := HandSHeadRun.topDef LL.R0.prog 57) (kwd := []) LL.obL_eq
    (by kernel_rfl) (fun s => by kernel_rfl) LL.runL (by kernel_rfl) (by kernel_rfl) (by kernel_rfl) (by rfl) (by first | assumption | decide +kernel) (by decide +kernel) ⟨rfl, rfl, rfl, rfl, rfl, by decide +kernel⟩ ?hw ?hc
  case hw => w_witness2
  case hc =>
    refine LamX.walk_ofTsE (l := PySem.Challenge.rw_lostlines_k02_whole_sure) (n := 63) (k := 25) (x := "_law_script") (CX := fun _ => L2.CX0) rfl (by decide) (by kernel_rfl) ⟨rfl, by decide, by decide⟩ ?F (fun _ _ _ _ _ z => z)
    intro w mg fa h Y G hmg0
    have hmg : mg ("law" : PySem.Str) = some (.ref fa) := by
      have e : (HandSHeadRun.topDef LL.R0.prog 57).name = ("law" : PySem.Str) := by kernel_rfl
      rw [← e]
      exact hmg0
    exact LL.lawAt Y G hmg
#print axioms PySem.Challenge.cw_lostlines_k02_whole_sure_holds
