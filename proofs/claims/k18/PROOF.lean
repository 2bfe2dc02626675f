import PyProof.Rows.All
import HandS.ForMost
import HandS.Defaults
import HandS.IsInst
import HandS.Wide
import HandS.Deep
import HandS.Evl
import HandS.Style
import HandS.ExcSuper
import KE.DataAny
import KE.DataCmp
import KE.DataEq
import KE.DataIsa
import KE.DataMinMax
import KE.SortData
import KE.KDictKeyed
import HandS.EndBits
import HandS.More
import HandS.DictTup
import KE.KDictSum
import KE.KDictList
import KE.KEqDict
import HandS.DictComp
import PyProof.ReprBulk
import PyProof.NeKinds
import HandS.Conv
import PyProof.LongRange
import HandS.ForExc
import KE.KExcIs
import HandS.ExcIs
import PySem.Challenge.RW_hookcarts_k18_whole_about_twice
set_option Elab.async false
set_option linter.all false
set_option maxRecDepth 100000
set_option maxHeartbeats 4000000
namespace Mr
open PySem PySem.Spec PyProof.Rows L2
/-- the world whose hashes the dicts hold -/
class Wd where
  w : World
mutual
/-- the key that a datum is -/
def keyN : PyData → Option NestedKey
  | .none => some .none
  | .bool b => some (.num (if b = true then 1 else 0))
  | .int i => some (.num i)
  | .str x => some (.text x)
  | .tuple ds => match keyNs ds with
    | some ks => some (.tup ks)
    | none => none
  | .list _ => none
  | .dict _ => none
def keyNs : List PyData → Option (List NestedKey)
  | [] => some []
  | d :: ds => match keyN d, keyNs ds with
    | some k, some ks => some (k :: ks)
    | _, _ => none
end
variable [Wd]
/-- entries as they lie, and the heap's -/
abbrev XY : List (NestedKey × Addr × V) → List (NestedKey × Addr × Value) → Prop := Paired fun x y => x.1 = y.1 ∧ x.2.1 = y.2.1 ∧ RelV x.2.2 y.2.2
/-- a dict whose keys are tuples, as it lies: each key, its tuple, its value -/
def DNo (a : Addr) (o : Obj) (xs : List (NestedKey × Addr × V)) : HO := .ext fun h => xs.length ≤ sizeLine ∧ (a == sysModules) = false ∧ (xs.map (·.1)).Nodup ∧
  ∃ (es : Array DictEntry) (ep : Nat) (ys : List (NestedKey × Addr × Value)), h.get? a = some o ∧ o.ExactDict ∧ o.data = .dict es ep ∧ XY xs ys ∧ es.toList = ys.map fun y => ⟨y.1.hash Wd.w, .ref y.2.1, y.2.2⟩

def keyD : Key → PyData
  | .inl i => .int i
  | .inr x => .str x

mutual
/-- what a value is worth, as data, over the tracked objects -/
inductive Dn (H : Hp) : V → PyData → Prop
  | non : Dn H .non .none
  | bl (b : Bool) : Dn H (.bl b) (.bool b)
  | int (i : Int) : Dn H (.int i) (.int i)
  | str (x : Str) : Dn H (.str x) (.str x)
  | lst {a : Addr} {xs : List V} {ds : List PyData} : H a = some (.lst xs) → DnAll H xs ds → Dn H (.ref a) (.list ds)
  | tup {a : Addr} {xs : List V} {ds : List PyData} : H a = some (.tup xs) → DnAll H xs ds → Dn H (.ref a) (.tuple ds)
  | dct {a : Addr} {kvs : List (Key × V)} {ds : List (PyData × PyData)} : kvs ≠ [] → H a = some (.dK kvs) → DnKv H kvs ds → Dn H (.ref a) (.dict ds)
  | dcn {a : Addr} {o : Obj} {xs : List (NestedKey × Addr × V)} {ds : List (PyData × PyData)} : H a = some (DNo a o xs) → DnEn H xs ds → Dn H (.ref a) (.dict ds)
inductive DnAll (H : Hp) : List V → List PyData → Prop
  | nil : DnAll H [] []
  | cons {v : V} {vs : List V} {d : PyData} {ds : List PyData} : Dn H v d → DnAll H vs ds → DnAll H (v :: vs) (d :: ds)
inductive DnKv (H : Hp) : List (Key × V) → List (PyData × PyData) → Prop
  | nil : DnKv H [] []
  | cons {k : Key} {v : V} {kvs : List (Key × V)} {d : PyData} {ds : List (PyData × PyData)} : Dn H v d → DnKv H kvs ds → DnKv H ((k, v) :: kvs) ((keyD k, d) :: ds)
inductive DnEn (H : Hp) : List (NestedKey × Addr × V) → List (PyData × PyData) → Prop
  | nil : DnEn H [] []
  | cons {k : NestedKey} {p : Addr} {v : V} {xs : List (NestedKey × Addr × V)} {dk d : PyData} {ds : List (PyData × PyData)} : Dn H (.ref p) dk → keyN dk = some k → k.depth ≤ 8 → Dn H v d → DnEn H xs ds → DnEn H ((k, p, v) :: xs) ((dk, d) :: ds)
end

def Le (H H' : Hp) : Prop := ∀ a o, H a = some o → H' a = some o
theorem Le.refl (H : Hp) : Le H H := fun _ _ h => h
theorem Le.trans {H H1 H2 : Hp} (a : Le H H1) (b : Le H1 H2) : Le H H2 := fun x o h => b x o (a x o h)
theorem Le.new {H : Hp} {p : Addr} {o : HO} (h : H p = none) : Le H (upd H p o) := fun a u e => by
  rw [upd_ne (ne_of_none e h)]; exact e
theorem Le.upd {H H' : Hp} (l : Le H H') {p : Addr} {o : HO} : Le (upd H p o) (upd H' p o) := fun a u e => by
  by_cases h : a = p
  · subst h; rw [upd_same] at e ⊢; exact e
  · rw [upd_ne h] at e ⊢; exact l a u e
theorem Le.none {H H' : Hp} (l : Le H H') {p : Addr} (h : H' p = none) : H p = none := by
  cases q : H p with
  | none => rfl
  | some o => rw [l p o q] at h; cases h

mutual
theorem Dn.mono {H H' : Hp} (l : Le H H') : ∀ (d : PyData) (v : V), Dn H v d → Dn H' v d
  | .none, _, h => by cases h; exact .non
  | .bool b, _, h => by cases h; exact .bl b
  | .int i, _, h => by cases h; exact .int i
  | .str x, _, h => by cases h; exact .str x
  | .list ds, _, h => by
    cases h with
    | lst e a => exact .lst (l _ _ e) (DnAll.mono l ds _ a)
  | .tuple ds, _, h => by
    cases h with
    | tup e a => exact .tup (l _ _ e) (DnAll.mono l ds _ a)
  | .dict ds, _, h => by
    cases h with
    | dct n e a => exact .dct n (l _ _ e) (DnKv.mono l ds _ a)
    | dcn e a => exact .dcn (l _ _ e) (DnEn.mono l ds _ a)
theorem DnAll.mono {H H' : Hp} (l : Le H H') : ∀ (ds : List PyData) (vs : List V), DnAll H vs ds → DnAll H' vs ds
  | [], _, h => by cases h; exact .nil
  | d :: ds, _, h => by
    cases h with
    | cons a b => exact .cons (Dn.mono l d _ a) (DnAll.mono l ds _ b)
theorem DnKv.mono {H H' : Hp} (l : Le H H') : ∀ (ds : List (PyData × PyData)) (kvs : List (Key × V)), DnKv H kvs ds → DnKv H' kvs ds
  | [], _, h => by cases h; exact .nil
  | (_, d) :: ds, _, h => by
    cases h with
    | cons a b => exact .cons (Dn.mono l d _ a) (DnKv.mono l ds _ b)
theorem DnEn.mono {H H' : Hp} (l : Le H H') : ∀ (ds : List (PyData × PyData)) (xs : List (NestedKey × Addr × V)), DnEn H xs ds → DnEn H' xs ds
  | [], _, h => by cases h; exact .nil
  | (dk, d) :: ds, _, h => by
    cases h with
    | cons a k z b c => exact .cons (Dn.mono l dk _ a) k z (Dn.mono l d _ b) (DnEn.mono l ds _ c)
end
theorem DnAll.length {H : Hp} : ∀ {vs : List V} {ds : List PyData}, DnAll H vs ds → vs.length = ds.length
  | [], _, h => by cases h; rfl
  | _ :: vs, _, h => by
    cases h with
    | cons a b => simp [b.length]
theorem DnAll.append {H : Hp} : ∀ {vs ws : List V} {ds es : List PyData}, DnAll H vs ds → DnAll H ws es → DnAll H (vs ++ ws) (ds ++ es)
  | [], _, _, _, h, g => by cases h; exact g
  | _ :: vs, _, _, _, h, g => by
    cases h with
    | cons a b => exact .cons a (b.append g)
theorem DnAll.get {H : Hp} : ∀ {vs : List V} {ds : List PyData} {i : Nat} {d : PyData}, DnAll H vs ds → ds[i]? = some d → ∃ v, vs[i]? = some v ∧ Dn H v d
  | [], _, _, _, h, e => by cases h; simp at e
  | v :: vs, _, 0, _, h, e => by
    cases h with
    | cons a b => simp at e; subst e; exact ⟨v, rfl, a⟩
  | v :: vs, _, i + 1, _, h, e => by
    cases h with
    | cons a b => simpa using b.get (by simpa using e)
theorem DnAll.get' {H : Hp} : ∀ {vs : List V} {ds : List PyData} {i : Nat} {v : V}, DnAll H vs ds → vs[i]? = some v → ∃ d, ds[i]? = some d ∧ Dn H v d
  | [], _, _, _, h, e => by simp at e
  | w :: vs, _, 0, _, h, e => by
    cases h with
    | cons a b => simp at e; subst e; exact ⟨_, rfl, a⟩
  | w :: vs, _, i + 1, _, h, e => by
    cases h with
    | cons a b => simpa using b.get' (by simpa using e)
theorem DnAll.take {H : Hp} : ∀ {vs : List V} {ds : List PyData} (n : Nat), DnAll H vs ds → DnAll H (vs.take n) (ds.take n)
  | _, _, 0, _ => .nil
  | [], _, n + 1, h => by cases h; exact .nil
  | _ :: vs, _, n + 1, h => by
    cases h with
    | cons a b => exact .cons a (b.take n)
theorem DnAll.drop {H : Hp} : ∀ {vs : List V} {ds : List PyData} (n : Nat), DnAll H vs ds → DnAll H (vs.drop n) (ds.drop n)
  | _, _, 0, h => h
  | [], _, n + 1, h => by cases h; exact .nil
  | _ :: vs, _, n + 1, h => by
    cases h with
    | cons a b => exact b.drop n
theorem DnAll.ints {H : Hp} : ∀ (ns : List Int), DnAll H (ns.map V.int) (ns.map PyData.int)
  | [] => .nil
  | n :: ns => .cons (.int n) (DnAll.ints ns)

theorem Dn.int_inv {H : Hp} {v : V} {i : Int} (h : Dn H v (.int i)) : v = .int i := by cases h; rfl
theorem Dn.str_inv {H : Hp} {v : V} {x : Str} (h : Dn H v (.str x)) : v = .str x := by cases h; rfl
theorem Dn.bl_inv {H : Hp} {v : V} {b : Bool} (h : Dn H v (.bool b)) : v = .bl b := by cases h; rfl
theorem Dn.non_inv {H : Hp} {v : V} (h : Dn H v .none) : v = .non := by cases h; rfl
theorem Dn.lst_inv {H : Hp} {v : V} {ds : List PyData} (h : Dn H v (.list ds)) : ∃ a xs, v = .ref a ∧ H a = some (.lst xs) ∧ DnAll H xs ds := by
  cases h with
  | lst e a => exact ⟨_, _, rfl, e, a⟩
theorem Dn.tup_inv {H : Hp} {v : V} {ds : List PyData} (h : Dn H v (.tuple ds)) : ∃ a xs, v = .ref a ∧ H a = some (.tup xs) ∧ DnAll H xs ds := by
  cases h with
  | tup e a => exact ⟨_, _, rfl, e, a⟩

/-! ### the values of slots and of expressions -/
inductive EV where
  | sh (d : PyData)
  | ow (d : PyData)
  | bg
structure Bag where
  x0 : Int
  x1 : Int
  x2 : Int
  cells : List Int
structure BagOk (B : Bag) : Prop where
  a0 : 0 ≤ B.x0
  a1 : 0 ≤ B.x1 ∧ B.x1 < 2147483647
  a2 : 0 ≤ B.x2
  cs : ∀ c ∈ B.cells, 0 ≤ c
inductive Out (α : Type) where
  | ok (a : α) (B : Bag)
  | bad
abbrev Env := List (Option EV)
abbrev EM := Env → Bag → Out EV
abbrev TM := Env → Bag → Out Bool
abbrev AM := Env → Bag → Out (List EV)
inductive Flow where
  | nx (r : Env) | rt (e : EV) | bk (r : Env) | ct (r : Env)
abbrev SM := Env → Bag → Out Flow

/-- the heap: H0 what is shared data, b the bag -/
structure HR (b : Addr × Addr) (B : Bag) (H0 H : Hp) : Prop where
  le : Le H0 H
  fb : H0 b.1 = none
  bag : H b.1 = some (.lst [.int B.x0, .int B.x1, .int B.x2, .ref b.2]) ∧ H0 b.2 = some (.lst (B.cells.map V.int))
  ok : BagOk B
/-- what stands, but for the bag, stays -/
def Keep (b : Addr × Addr) (H H' : Hp) : Prop := ∀ a o, a ≠ b.1 → H a = some o → H' a = some o
theorem Keep.refl (b : Addr × Addr) (H : Hp) : Keep b H H := fun _ _ _ h => h
theorem Keep.trans {b : Addr × Addr} {H H1 H2 : Hp} (x : Keep b H H1) (y : Keep b H1 H2) : Keep b H H2 := fun a o n h => y a o n (x a o n h)
theorem Keep.none {b : Addr × Addr} {H H' : Hp} (k : Keep b H H') {p : Addr} (n : p ≠ b.1) (h : H' p = none) : H p = none := by
  cases q : H p with
  | none => rfl
  | some o => rw [k p o n q] at h; cases h
theorem Keep.of {b : Addr × Addr} {H H' : Hp} (l : Le H H') : Keep b H H' := fun a o _ h => l a o h
/-- an own thing: a list, a dict -/
inductive OwnD (H0 : Hp) (p : Addr) : HO → PyData → Prop
  | lst {vs : List V} {ds : List PyData} : DnAll H0 vs ds → OwnD H0 p (.lst vs) (.list ds)
  | dct {o : Obj} {xs : List (NestedKey × Addr × V)} {ds : List (PyData × PyData)} : DnEn H0 xs ds → OwnD H0 p (DNo p o xs) (.dict ds)
theorem OwnD.mono {H0 H0' : Hp} {p : Addr} {o : HO} {d : PyData} (h : OwnD H0 p o d) (l : Le H0 H0') : OwnD H0' p o d := by
  cases h with
  | lst a => exact .lst (DnAll.mono l _ _ a)
  | dct a => exact .dct (DnEn.mono l _ _ a)
theorem OwnD.dn {H0 : Hp} {p : Addr} {o : HO} {d : PyData} (h : OwnD H0 p o d) (n : H0 p = none) : Dn (upd H0 p o) (.ref p) d := by
  cases h with
  | lst a => exact .lst upd_same (DnAll.mono (Le.new n) _ _ a)
  | dct a => exact .dcn upd_same (DnEn.mono (Le.new n) _ _ a)
theorem OwnD.list {H0 : Hp} {p : Addr} {o : HO} {ds : List PyData} (h : OwnD H0 p o (.list ds)) : ∃ vs, o = .lst vs ∧ DnAll H0 vs ds := by
  cases h with
  | lst a => exact ⟨_, rfl, a⟩
theorem OwnD.dict {H0 : Hp} {p : Addr} {o : HO} {ds : List (PyData × PyData)} (h : OwnD H0 p o (.dict ds)) : ∃ u xs, o = DNo p u xs ∧ DnEn H0 xs ds := by
  cases h with
  | dct a => exact ⟨_, _, rfl, a⟩
def VR (b : Addr × Addr) (He H0 H : Hp) (v : V) : EV → Prop
  | .sh d => Dn H0 v d
  | .ow d => ∃ (p : Addr) (o : HO) (_ : Unit), v = .ref p ∧ p ≠ b.1 ∧ He p = none ∧ H0 p = none ∧ True ∧ H p = some o ∧ OwnD H0 p o d
  | .bg => v = .ref b.1
/-- how heaps grow: what stands, but for the bag, stays; what is shared grows by what is new alone -/
structure Gr (b : Addr × Addr) (H H0 H' H0' : Hp) : Prop where
  kp : Keep b H H'
  l0 : Le H0 H0'
  n0 : ∀ a o, H a = some o → H0 a = none → H0' a = none
  fb : H0' b.1 = none
theorem Gr.refl {b : Addr × Addr} {H H0 : Hp} (h : H0 b.1 = none) : Gr b H H0 H H0 := ⟨Keep.refl _ _, Le.refl _, fun _ _ _ h => h, h⟩
theorem Gr.trans {b : Addr × Addr} {H H0 H1 H01 H2 H02 : Hp} (x : Gr b H H0 H1 H01) (y : Gr b H1 H01 H2 H02) : Gr b H H0 H2 H02 :=
  ⟨x.kp.trans y.kp, x.l0.trans y.l0, fun a o h1 h2 => by
    by_cases e : a = b.1
    · rw [e]; exact y.fb
    · exact y.n0 a o (x.kp a o e h1) (x.n0 a o h1 h2), y.fb⟩
/-- a new object, shared -/
theorem Gr.share {b : Addr × Addr} {p : Addr} {H H0 : Hp} {o : HO} (fb : H0 b.1 = none) (nb : p ≠ b.1) (h : H p = none) (h0 : H0 p = none) : Gr b H H0 (upd H p o) (upd H0 p o) :=
  ⟨Keep.of (Le.new h), Le.new h0, fun a u e n => by rw [upd_ne (ne_of_none e h)]; exact n, by rw [upd_ne nb.symm]; exact fb⟩
theorem Gr.fresh {b : Addr × Addr} {p : Addr} {H H0 : Hp} {o : HO} (fb : H0 b.1 = none) (h : H p = none) : Gr b H H0 (upd H p o) H0 :=
  ⟨Keep.of (Le.new h), Le.refl _, fun a u e n => n, fb⟩
/-- the state in a def: He the heap at its entry -/
structure SR (b : Addr × Addr) (He H0e : Hp) (σ : L2.St) (ρ : Env) (B : Bag) (H0 H : Hp) : Prop where
  hr : HR b B H0 H
  gr : Gr b He H0e H H0
  len : σ.length = ρ.length
  slot : ∀ (i : Nat) e, ρ[i]? = some (some e) → ∃ v, σ[i]? = some (some v) ∧ VR b He H0 H v e
  own : ∀ (i j : Nat) d d', i ≠ j → ρ[i]? = some (some (.ow d)) → ρ[j]? = some (some (.ow d')) → σ[i]? ≠ σ[j]?

/-- an expression's reading by its mirror -/
def rdE (m : EM) : TE := fun σ H Q => ∃ b He H0e ρ B H0, SR b He H0e σ ρ B H0 H ∧ match m ρ B with
  | .ok e B' => ∀ v H0' H', Gr b H H0 H' H0' → SR b He H0e σ ρ B' H0' H' → VR b H H0' H' v e → Q v H'
  | .bad => False
def rdT (m : TM) : TT := fun σ H Q => ∃ b He H0e ρ B H0, SR b He H0e σ ρ B H0 H ∧ match m ρ B with
  | .ok c B' => ∀ H0' H', Gr b H H0 H' H0' → SR b He H0e σ ρ B' H0' H' → Q c H'
  | .bad => False
inductive VRs (b : Addr × Addr) (H0 : Hp) : List V → List EV → Prop
  | nil : VRs b H0 [] []
  | sh {v d vs es} : Dn H0 v d → VRs b H0 vs es → VRs b H0 (v :: vs) (.sh d :: es)
  | bg {vs es} : VRs b H0 vs es → VRs b H0 (.ref b.1 :: vs) (.bg :: es)
/-- an argument list: all is shared -/
def rdA (m : AM) : TA := fun σ H Q => ∃ b He H0e ρ B H0, SR b He H0e σ ρ B H0 H ∧ match m ρ B with
  | .ok es B' => ∀ vs H0' H', Gr b H H0 H' H0' → SR b He H0e σ ρ B' H0' H' → VRs b H0' vs es → Q vs H'
  | .bad => False
def postS (b : Addr × Addr) (He H0e Hs : Hp) (D : Ends) : Out Flow → Prop
  | .ok (.nx ρ') B' => ∀ σ' H0' H', Le Hs H0' → SR b He H0e σ' ρ' B' H0' H' → D.nx σ' H'
  | .ok (.bk ρ') B' => ∀ σ' H0' H', Le Hs H0' → SR b He H0e σ' ρ' B' H0' H' → D.bk σ' H'
  | .ok (.ct ρ') B' => ∀ σ' H0' H', Le Hs H0' → SR b He H0e σ' ρ' B' H0' H' → D.ct σ' H'
  | .ok (.rt e) B' => ∀ v H0' H', HR b B' H0' H' → Gr b He H0e H' H0' → VR b He H0' H' v e → D.rt v H'
  | .bad => False
def rdS (m : SM) : TS := fun D σ H => ∃ b He H0e ρ B H0, SR b He H0e σ ρ B H0 H ∧ postS b He H0e H0 D (m ρ B)
theorem postS.mono {b : Addr × Addr} {He H0e Hs Hs' : Hp} {D : Ends} (l : Le Hs Hs') {o : Out Flow} (q : postS b He H0e Hs D o) : postS b He H0e Hs' D o := by
  match o, q with
  | .ok (.nx ρ') B', q => exact fun σ' H0' H' z => q σ' H0' H' (l.trans z)
  | .ok (.bk ρ') B', q => exact fun σ' H0' H' z => q σ' H0' H' (l.trans z)
  | .ok (.ct ρ') B', q => exact fun σ' H0' H' z => q σ' H0' H' (l.trans z)
  | .ok (.rt e) B', q => exact q
abbrev ME (X : Cx) (e : Expr) (m : EM) : Prop := PE X e (rdE m)
abbrev MT (X : Cx) (e : Expr) (m : TM) : Prop := PT X e (rdT m)
abbrev MA (X : Cx) (es : List Expr) (m : AM) : Prop := PA X es (rdA m)
abbrev MS (X : Cx) (st : Stmt) (m : SM) : Prop := PS X st (rdS m)
abbrev MSs (X : Cx) (st : List Stmt) (m : SM) : Prop := PSs X st (rdS m)

theorem PE.weak {X : Cx} {e : Expr} {t t' : TE} (h : PE X e t) (w : ∀ σ H Q, t' σ H Q → t σ H Q) : PE X e t' := ⟨fun pins s σ H Q I q => h.run pins s σ H Q I (w σ H Q q)⟩
theorem PT.weak {X : Cx} {e : Expr} {t t' : TT} (h : PT X e t) (w : ∀ σ H Q, t' σ H Q → t σ H Q) : PT X e t' := ⟨fun pins s σ H Q I q => h.run pins s σ H Q I (w σ H Q q)⟩
theorem PA.weak {X : Cx} {e : List Expr} {t t' : TA} (h : PA X e t) (w : ∀ σ H Q, t' σ H Q → t σ H Q) : PA X e t' := ⟨fun pos pins s σ H Q I q => h.run pos pins s σ H Q I (w σ H Q q)⟩
theorem PS.weak {X : Cx} {e : Stmt} {t t' : TS} (h : PS X e t) (w : ∀ D σ H, t' D σ H → t D σ H) : PS X e t' := ⟨fun pins s σ H D I q => h.run pins s σ H D I (w D σ H q)⟩
theorem PSs.weak {X : Cx} {e : List Stmt} {t t' : TS} (h : PSs X e t) (w : ∀ D σ H, t' D σ H → t D σ H) : PSs X e t' := ⟨fun pins s σ H D I q => h.run pins s σ H D I (w D σ H q)⟩

section
variable {b : Addr × Addr} {He H0e H0 H H' H0' : Hp} {σ : L2.St} {ρ : Env} {B B' : Bag}
theorem SR.ownH (s : SR b He H0e σ ρ B H0 H) {i : Nat} {d : PyData} {p : Addr} (h1 : ρ[i]? = some (some (.ow d))) (h2 : σ[i]? = some (some (.ref p))) : (∃ o, H p = some o) ∧ H0 p = none ∧ p ≠ b.1 := by
  obtain ⟨v, hv, p', vs, ds, rfl, hb, _, h3, _, h4, _⟩ := s.slot i _ h1
  rw [h2] at hv; cases hv
  exact ⟨⟨_, h4⟩, h3, hb⟩
theorem SR.slotL (s : SR b He H0e σ ρ B H0 H) {i : Nat} {ds : List PyData} (h : ρ[i]? = some (some (.ow (.list ds)))) : ∃ v, σ[i]? = some (some v) ∧ ∃ p vs ds', v = .ref p ∧ p ≠ b.1 ∧ He p = none ∧ H0 p = none ∧ PyData.list ds = .list ds' ∧ H p = some (.lst vs) ∧ DnAll H0 vs ds' := by
  obtain ⟨v, hv, p, o, _, rfl, h1, h2, h3, _, h5, h6⟩ := s.slot i _ h
  obtain ⟨vs, rfl, a⟩ := h6.list
  exact ⟨_, hv, p, vs, ds, rfl, h1, h2, h3, rfl, h5, a⟩
/-- the heaps grow -/
theorem SR.more (s : SR b He H0e σ ρ B H0 H) (g : Gr b H H0 H' H0') (hr : HR b B' H0' H') : SR b He H0e σ ρ B' H0' H' := by
  refine ⟨hr, s.gr.trans g, s.len, fun i e he => ?_, s.own⟩
  obtain ⟨v, hv, r⟩ := s.slot i e he
  refine ⟨v, hv, ?_⟩
  cases e with
  | sh d => exact Dn.mono g.l0 d v r
  | bg => exact r
  | ow d =>
    obtain ⟨p, vs, ds, rfl, hb, h1, h2, h3, h4, h5⟩ := r
    exact ⟨p, vs, ds, rfl, hb, h1, g.n0 p _ h4 h2, h3, g.kp p _ hb h4, h5.mono g.l0⟩
theorem SR.notb (s : SR b He H0e σ ρ B H0 H) {p : Addr} (n : H p = none) : p ≠ b.1 := by
  intro e; obtain ⟨h, _⟩ := s.hr.bag; rw [e] at n; rw [n] at h; cases h
/-- a new object becomes shared -/
theorem SR.share (s : SR b He H0e σ ρ B H0 H) {p : Addr} {o : HO} (n : H p = none) : Gr b H H0 (upd H p o) (upd H0 p o) ∧ SR b He H0e σ ρ B (upd H0 p o) (upd H p o) := by
  have n0 : H0 p = none := s.hr.le.none n
  have nb : p ≠ b.1 := s.notb n
  have g : Gr b H H0 (upd H p o) (upd H0 p o) := Gr.share s.hr.fb nb n n0
  refine ⟨g, s.more g ⟨s.hr.le.upd, g.fb, ?_, s.hr.ok⟩⟩
  obtain ⟨h1, h2⟩ := s.hr.bag
  exact ⟨by rw [upd_ne nb.symm]; exact h1, Le.new n0 _ _ h2⟩
/-- a new object, not shared -/
theorem SR.fresh (s : SR b He H0e σ ρ B H0 H) {p : Addr} {o : HO} (n : H p = none) : Gr b H H0 (upd H p o) H0 ∧ SR b He H0e σ ρ B H0 (upd H p o) := by
  have nb : p ≠ b.1 := s.notb n
  have g : Gr b H H0 (upd H p o) H0 := Gr.fresh s.hr.fb n
  refine ⟨g, s.more g ⟨s.hr.le.trans (Le.new n), s.hr.fb, ?_, s.hr.ok⟩⟩
  obtain ⟨h1, h2⟩ := s.hr.bag
  exact ⟨by rw [upd_ne nb.symm]; exact h1, h2⟩
/-- a new list that an expression has made (it stood not at H) becomes shared -/
theorem SR.frz (s : SR b He H0e σ ρ B H0 H) {B1 : Bag} {H1 H01 : Hp} (g : Gr b H H0 H1 H01) (s1 : SR b He H0e σ ρ B1 H01 H1) {p : Addr} {u : HO} (nb : p ≠ b.1) (n : H p = none) (h : H1 p = some u) (n0 : H01 p = none) :
    Gr b H H0 H1 (upd H01 p u) ∧ SR b He H0e σ ρ B1 (upd H01 p u) H1 := by
  have g1 : Gr b H H0 H1 (upd H01 p u) := ⟨g.kp, g.l0.trans (Le.new n0), fun a o e z => by rw [upd_ne (ne_of_none e n)]; exact g.n0 a o e z, by rw [upd_ne nb.symm]; exact g.fb⟩
  refine ⟨g1, s.more g1 ⟨fun a o e => ?_, g1.fb, ?_, s1.hr.ok⟩⟩
  · by_cases ha : a = p
    · subst ha; rw [upd_same] at e; cases e; exact h
    · rw [upd_ne ha] at e; exact s1.hr.le a o e
  · obtain ⟨h1, h2⟩ := s1.hr.bag
    exact ⟨h1, Le.new n0 _ _ h2⟩
end
/-- the data of an expression's value -/
def EV.data : EV → Option PyData
  | .sh d => some d
  | .ow d => some d
  | .bg => none
theorem SR.data {b : Addr × Addr} {He H0e H0 H : Hp} {σ : L2.St} {ρ : Env} {B B1 : Bag} {H1 H01 : Hp} {v : V} {e : EV} {d : PyData} (s : SR b He H0e σ ρ B H0 H) (g : Gr b H H0 H1 H01) (s1 : SR b He H0e σ ρ B1 H01 H1) (r : VR b H H01 H1 v e) (hd : e.data = some d) :
    ∃ H02, Gr b H H0 H1 H02 ∧ SR b He H0e σ ρ B1 H02 H1 ∧ Dn H02 v d := by
  cases e with
  | bg => cases hd
  | sh d' => cases hd; exact ⟨H01, g, s1, r⟩
  | ow d' =>
    cases hd
    obtain ⟨p, vs, ds, rfl, hb, h1, h2, _, h4, h5⟩ := r
    obtain ⟨g1, s2⟩ := s.frz g s1 hb h1 h4 h2
    exact ⟨_, g1, s2, h5.dn h2⟩
end Mr
namespace Mr
open PySem PySem.Spec PyProof.Rows L2
variable [Wd]

def Out.bind {α β : Type} (o : Out α) (f : α → Bag → Out β) : Out β := match o with
  | .ok a B => f a B
  | .bad => .bad
@[simp] theorem bind_ok {α β : Type} (a : α) (B : Bag) (f : α → Bag → Out β) : (Out.ok a B).bind f = f a B := rfl
@[simp] theorem bind_bad {α β : Type} (f : α → Bag → Out β) : (Out.bad : Out α).bind f = .bad := rfl
def liftO (o : Option EV) (B : Bag) : Out EV := match o with
  | some e => .ok e B
  | none => .bad
@[simp] theorem liftO_some (e : EV) (B : Bag) : liftO (some e) B = .ok e B := rfl
@[simp] theorem liftO_none (B : Bag) : liftO none B = .bad := rfl

def eVar (i : Nat) : EM := fun ρ B => match ρ[i]? with
  | some (some (.sh d)) => .ok (.sh d) B
  | some (some .bg) => .ok .bg B
  | _ => .bad
def eC (d : PyData) : EM := fun _ B => .ok (.sh d) B
def eBin (g : PyData → PyData → Option EV) (m1 m2 : EM) : EM := fun ρ B => (m1 ρ B).bind fun e1 B1 => (m2 ρ B1).bind fun e2 B2 => liftO (e1.data.bind fun d1 => e2.data.bind fun d2 => g d1 d2) B2
def eUn (g : PyData → Option EV) (m1 : EM) : EM := fun ρ B => (m1 ρ B).bind fun e1 B1 => liftO (e1.data.bind g) B1
def eIf (c : TM) (m1 m2 : EM) : EM := fun ρ B => (c ρ B).bind fun k B1 => if k then m1 ρ B1 else m2 ρ B1
def boolOf : EV → Option Bool
  | .sh (.bool k) => some k
  | _ => none
def eAnd (m1 m2 : EM) : EM := fun ρ B => (m1 ρ B).bind fun e B1 => match boolOf e with
  | some k => if k then m2 ρ B1 else .ok (.sh (.bool false)) B1
  | none => .bad
def eOr (m1 m2 : EM) : EM := fun ρ B => (m1 ρ B).bind fun e B1 => match boolOf e with
  | some k => if k then .ok (.sh (.bool true)) B1 else m2 ρ B1
  | none => .bad
def eNot (m1 : EM) : EM := fun ρ B => (m1 ρ B).bind fun e B1 => match boolOf e with
  | some k => .ok (.sh (.bool (!k))) B1
  | none => .bad
def tAndM (m1 m2 : TM) : TM := fun ρ B => (m1 ρ B).bind fun k B1 => if k then m2 ρ B1 else .ok false B1
def tOrM (m1 m2 : TM) : TM := fun ρ B => (m1 ρ B).bind fun k B1 => if k then .ok true B1 else m2 ρ B1
def tNotM (m1 : TM) : TM := fun ρ B => (m1 ρ B).bind fun k B1 => .ok (!k) B1
def truD : PyData → Option Bool
  | .none => some false
  | .bool b => some b
  | .int i => some (i != 0)
  | .str y => if y.length ≤ sizeLine then some ((y.length : Int) != 0) else none
  | .list xs => some (!xs.isEmpty)
  | .tuple xs => some (!xs.isEmpty)
  | .dict _ => none
def tVal (m : EM) : TM := fun ρ B => (m ρ B).bind fun e B1 => match e.data.bind truD with
  | some k => .ok k B1
  | none => .bad
def tBool (m : EM) : TM := fun ρ B => (m ρ B).bind fun e B1 => match boolOf e with
  | some k => .ok k B1
  | none => .bad
def EV.share : EV → EV
  | .sh d => .sh d
  | .ow d => .sh d
  | .bg => .bg
def aNil : AM := fun _ B => .ok [] B
def aCons (m : EM) (ms : AM) : AM := fun ρ B => (m ρ B).bind fun e B1 => (ms ρ B1).bind fun es B2 => .ok (e.share :: es) B2
def dataAll : List EV → Option (List PyData)
  | [] => some []
  | .sh d :: r => (dataAll r).map (d :: ·)
  | _ :: _ => none
def eTup (ms : AM) : EM := fun ρ B => (ms ρ B).bind fun es B1 => match dataAll es with
  | some ds => if ds.length ≤ sizeLine then .ok (.sh (.tuple ds)) B1 else .bad
  | none => .bad
def eLst (ms : AM) : EM := fun ρ B => (ms ρ B).bind fun es B1 => match dataAll es with
  | some ds => if ds.length ≤ sizeLine then .ok (.ow (.list ds)) B1 else .bad
  | none => .bad
abbrev FM := List EV → Bag → Out EV
def eCall (n : Nat) (mf : FM) (ms : AM) : EM := fun ρ B => (ms ρ B).bind fun es B1 => if es.length = n then mf es B1 else .bad
/-- a built-in, or a method, of data -/
def eCB (g : List PyData → Option EV) (ms : AM) : EM := fun ρ B => (ms ρ B).bind fun es B1 => liftO ((dataAll es).bind g) B1

/-- what a plain operation hands back -/
def NewRes (H0 H : Hp) (z : V) (H' : Hp) : EV → Prop
  | .sh d => (H' = H ∧ Dn H0 z d) ∨ ∃ p vs ds, d = .tuple ds ∧ z = .ref p ∧ H p = none ∧ H' = upd H p (.tup vs) ∧ DnAll H0 vs ds
  | .ow d => ∃ p vs ds, d = .list ds ∧ z = .ref p ∧ H p = none ∧ H' = upd H p (.lst vs) ∧ DnAll H0 vs ds
  | .bg => False
section
variable {b : Addr × Addr} {He H0e H0 H H' H0' : Hp} {σ : L2.St} {ρ : Env} {B B' : Bag}
theorem NewRes.ok {z : V} {e : EV} (s : SR b He H0e σ ρ B H0 H) (n : NewRes H0 H z H' e) : ∃ H0', Gr b H H0 H' H0' ∧ SR b He H0e σ ρ B H0' H' ∧ VR b H H0' H' z e := by
  cases e with
  | bg => exact n.elim
  | sh d =>
    rcases n with ⟨rfl, h⟩ | ⟨p, vs, ds, rfl, rfl, hp, rfl, h⟩
    · exact ⟨H0, Gr.refl s.hr.fb, s, h⟩
    · have n0 : H0 p = none := s.hr.le.none hp
      obtain ⟨g, s1⟩ := s.share (o := .tup vs) hp
      exact ⟨upd H0 p (.tup vs), g, s1, .tup upd_same (DnAll.mono (Le.new n0) _ _ h)⟩
  | ow d =>
    obtain ⟨p, vs, ds, rfl, rfl, hp, rfl, h⟩ := n
    have n0 : H0 p = none := s.hr.le.none hp
    obtain ⟨g, s1⟩ := s.fresh (o := .lst vs) hp
    exact ⟨H0, g, s1, p, _, (), rfl, s.notb hp, hp, n0, trivial, upd_same, .lst h⟩
theorem VR.back {H1 H01 : Hp} {v : V} {e : EV} (k : Gr b H H0 H1 H01) (r : VR b H1 H0' H' v e) : VR b H H0' H' v e := by
  cases e with
  | bg => exact r
  | sh d => exact r
  | ow d =>
    obtain ⟨p, vs, ds, rfl, hb, h1, h2⟩ := r
    exact ⟨p, vs, ds, rfl, hb, k.kp.none hb h1, h2⟩
end
theorem VRs.mono {b : Addr × Addr} {H0 H0' : Hp} (l : Le H0 H0') {vs : List V} {es : List EV} (h : VRs b H0 vs es) : VRs b H0' vs es := by
  induction h with
  | nil => exact .nil
  | sh a _ ih => exact .sh (Dn.mono l _ _ a) ih
  | bg _ ih => exact .bg ih
theorem VRs.length {b : Addr × Addr} {H0 : Hp} {vs : List V} {es : List EV} (h : VRs b H0 vs es) : vs.length = es.length := by
  induction h with
  | nil => rfl
  | sh a _ ih => simp [ih]
  | bg _ ih => simp [ih]
theorem VRs.all {b : Addr × Addr} {H0 : Hp} {vs : List V} {es : List EV} (h : VRs b H0 vs es) : ∀ {ds : List PyData}, dataAll es = some ds → DnAll H0 vs ds := by
  induction h with
  | nil => intro ds e; cases e; exact .nil
  | sh a _ ih =>
    intro ds e
    rename_i v d vs es _
    cases q : dataAll es with
    | none => simp [dataAll, q] at e
    | some r => simp [dataAll, q] at e; subst e; exact .cons a (ih q)
  | bg _ ih => intro ds e; cases e

section
variable {X : Cx} {a c e : Expr} {es : List Expr} {m m1 m2 : EM} {pos : Pos}
/-- the step of an expression's reading -/
theorem rdE_at {b : Addr × Addr} {He H0e H0 H : Hp} {σ : L2.St} {ρ : Env} {B : Bag} {Q : VK} (s : SR b He H0e σ ρ B H0 H) {e : EV} {B' : Bag} (h : m ρ B = .ok e B')
    (q : ∀ v H0' H', Gr b H H0 H' H0' → SR b He H0e σ ρ B' H0' H' → VR b H H0' H' v e → Q v H') : rdE m σ H Q := ⟨b, He, H0e, ρ, B, H0, s, by rw [h]; exact q⟩
theorem rdT_at {m : TM} {b : Addr × Addr} {He H0e H0 H : Hp} {σ : L2.St} {ρ : Env} {B : Bag} {Q : Bool → Hp → Prop} (s : SR b He H0e σ ρ B H0 H) {e : Bool} {B' : Bag} (h : m ρ B = .ok e B')
    (q : ∀ H0' H', Gr b H H0 H' H0' → SR b He H0e σ ρ B' H0' H' → Q e H') : rdT m σ H Q := ⟨b, He, H0e, ρ, B, H0, s, by rw [h]; exact q⟩
theorem rdA_at {m : AM} {b : Addr × Addr} {He H0e H0 H : Hp} {σ : L2.St} {ρ : Env} {B : Bag} {Q : List V → Hp → Prop} (s : SR b He H0e σ ρ B H0 H) {e : List EV} {B' : Bag} (h : m ρ B = .ok e B')
    (q : ∀ v H0' H', Gr b H H0 H' H0' → SR b He H0e σ ρ B' H0' H' → VRs b H0' v e → Q v H') : rdA m σ H Q := ⟨b, He, H0e, ρ, B, H0, s, by rw [h]; exact q⟩

theorem me_var (i : Nat) {x : Str} (h : PE X (.Name x pos) (tVar i)) : ME X (.Name x pos) (eVar i) := PE.weak h fun σ H Q ⟨b, He, H0e, ρ, B, H0, s, q⟩ => by
  unfold eVar at q
  cases hr : ρ[i]? with
  | none => rw [hr] at q; exact q.elim
  | some o =>
    rw [hr] at q
    cases o with
    | none => exact q.elim
    | some e =>
      obtain ⟨v, hv, r⟩ := s.slot i e hr
      cases e with
      | sh d => exact ⟨v, hv, q v H0 H (Gr.refl s.hr.fb) s r⟩
      | bg => exact ⟨v, hv, q v H0 H (Gr.refl s.hr.fb) s r⟩
      | ow d => exact q.elim
theorem me_c {v : V} {d : PyData} (hd : ∀ H, Dn H v d) (h : PE X e (tC v)) : ME X e (eC d) := PE.weak h fun σ H Q ⟨b, He, H0e, ρ, B, H0, s, q⟩ => q v H0 H (Gr.refl s.hr.fb) s (hd H0)
theorem me_int {i : Int} {j} : ME X (.Constant (.int i) j pos) (eC (.int i)) := me_c (fun _ => .int i) pe_int
theorem me_bl {i : Bool} {j} : ME X (.Constant (.bool i) j pos) (eC (.bool i)) := me_c (fun _ => .bl i) pe_bl
theorem me_non {j} : ME X (.Constant .none j pos) (eC .none) := me_c (fun _ => .non) pe_non
theorem me_str {x : Str} {j} : ME X (.Constant (.str x) j pos) (eC (.str x)) := me_c (fun _ => .str x) pe_str

def rD2 (g : PyData → PyData → Option EV) : R2 := fun x y H Q => ∃ H0 d1 d2 e, Le H0 H ∧ Dn H0 x d1 ∧ Dn H0 y d2 ∧ g d1 d2 = some e ∧ ∀ z H', NewRes H0 H z H' e → Q z H'
def rD1 (g : PyData → Option EV) : V → Hp → VK → Prop := fun x H Q => ∃ H0 d1 e, Le H0 H ∧ Dn H0 x d1 ∧ g d1 = some e ∧ ∀ z H', NewRes H0 H z H' e → Q z H'
def rDA (g : List PyData → Option EV) : List V → Hp → VK → Prop := fun xs H Q => ∃ H0 ds e, Le H0 H ∧ DnAll H0 xs ds ∧ g ds = some e ∧ ∀ z H', NewRes H0 H z H' e → Q z H'

theorem bin_rd {g : PyData → PyData → Option EV} {σ : L2.St} {H : Hp} {Q : VK} (h : rdE (eBin g m1 m2) σ H Q) : tOp (rD2 g) (rdE m1) (rdE m2) σ H Q := by
  obtain ⟨b, He, H0e, ρ, B, H0, s, q⟩ := h
  unfold eBin at q
  cases h1 : m1 ρ B with
  | bad => rw [h1] at q; exact q.elim
  | ok e1 B1 =>
    rw [h1, bind_ok] at q
    refine rdE_at s h1 fun v H01 H1 g1 s1 r1 => ?_
    cases h2 : m2 ρ B1 with
    | bad => rw [h2] at q; exact q.elim
    | ok e2 B2 =>
      rw [h2, bind_ok] at q
      cases hd1 : e1.data with
      | none => rw [hd1] at q; exact q.elim
      | some d1 =>
        obtain ⟨H02, g2, s2, D1⟩ := s.data g1 s1 r1 hd1
        refine rdE_at s2 h2 fun y H03 H3 g3 s3 r3 => ?_
        cases hd2 : e2.data with
        | none => rw [hd1, hd2] at q; exact q.elim
        | some d2 =>
          obtain ⟨H04, g4, s4, D2⟩ := s2.data g3 s3 r3 hd2
          rw [hd1, hd2] at q
          cases hg : g d1 d2 with
          | none => simp [hg] at q
          | some e =>
            simp [hg] at q
            refine ⟨H04, d1, d2, e, s4.hr.le, Dn.mono g4.l0 _ _ D1, D2, hg, fun z H5 n => ?_⟩
            obtain ⟨H05, g5, s5, r5⟩ := n.ok s4
            exact q z H05 H5 ((g2.trans g4).trans g5) s5 (r5.back (g2.trans g4))
theorem me_op {op : Operator} {g : PyData → PyData → Option EV} (ho : OpR X (binaryOp op) (rD2 g)) (ha : ME X a m1) (hb : ME X c m2) : ME X (.BinOp a op c pos) (eBin g m1 m2) := PE.weak (pe_op ho ha hb) fun _ _ _ => bin_rd
theorem me_cmp {op : CmpOp} {g : PyData → PyData → Option EV} (ho : OpR X (compareOp op) (rD2 g)) (ha : ME X a m1) (hb : ME X c m2) (hm : behindInMarks op c = false) : ME X (.Compare a [op] [c] pos) (eBin g m1 m2) := PE.weak (pe_cmpR ho ha hb hm) fun _ _ _ => bin_rd
theorem bool_rd {m : EM} {σ : L2.St} {H : Hp} {Q : Bool → Hp → Prop} (h : rdT (tBool m) σ H Q) : rdE m σ H fun x H' => ∃ k, x = .bl k ∧ Q k H' := by
  obtain ⟨b, He, H0e, ρ, B, H0, s, q⟩ := h
  unfold tBool at q
  cases h1 : m ρ B with
  | bad => rw [h1] at q; exact q.elim
  | ok e1 B1 =>
    rw [h1, bind_ok] at q
    refine rdE_at s h1 fun v H01 H1 g1 s1 r1 => ?_
    cases e1 with
    | ow d => exact q.elim
    | bg => exact q.elim
    | sh d =>
      cases d with
      | bool k => exact ⟨k, Dn.bl_inv r1, q H01 H1 g1 s1⟩
      | _ => exact q.elim
theorem mt_cmp {op : CmpOp} {g : PyData → PyData → Option EV} (ho : OpR X (compareOp op) (rD2 g)) (ha : ME X a m1) (hb : ME X c m2) (hm : behindInMarks op c = false) : MT X (.Compare a [op] [c] pos) (tBool (eBin g m1 m2)) :=
  PT.weak (pt_cmpR ho ha hb hm) fun σ H Q h => bin_rd (bool_rd h |> fun z => z)
end
end Mr
namespace Mr
open PySem PySem.Spec PyProof.Rows L2
variable [Wd]
section
variable {X : Cx} {a c e : Expr} {es : List Expr} {m m1 m2 : EM} {pos : Pos}
/-! ### operators of one argument, choices, truths -/
theorem me_un {op : UnaryOp} {g : PyData → Option EV} (ho : UnR X (unaryOp op) (rD1 g)) (ha : ME X a m1) : ME X (.UnaryOp op a pos) (eUn g m1) := PE.weak (pe_un ho ha) fun σ H Q ⟨b, He, H0e, ρ, B, H0, s, q⟩ => by
  unfold eUn at q
  cases h1 : m1 ρ B with
  | bad => rw [h1] at q; exact q.elim
  | ok e1 B1 =>
    rw [h1, bind_ok] at q
    refine rdE_at s h1 fun v H01 H1 g1 s1 r1 => ?_
    cases hd1 : e1.data with
    | none => rw [hd1] at q; exact q.elim
    | some d1 =>
      obtain ⟨H02, g2, s2, D1⟩ := s.data g1 s1 r1 hd1
      rw [hd1] at q
      cases hg : g d1 with
      | none => simp [hg] at q
      | some e =>
        simp [hg] at q
        refine ⟨H02, d1, e, s2.hr.le, D1, hg, fun z H5 n => ?_⟩
        obtain ⟨H05, g5, s5, r5⟩ := n.ok s2
        exact q z H05 H5 (g2.trans g5) s5 (r5.back g2)
theorem if_rd {tc : TM} {σ : L2.St} {H : Hp} {Q : VK} (h : rdE (eIf tc m1 m2) σ H Q) : tIf (rdT tc) (rdE m1) (rdE m2) σ H Q := by
  obtain ⟨b, He, H0e, ρ, B, H0, s, q⟩ := h
  unfold eIf at q
  cases h1 : tc ρ B with
  | bad => rw [h1] at q; exact q.elim
  | ok k B1 =>
    rw [h1, bind_ok] at q
    refine rdT_at s h1 fun H01 H1 g1 s1 => ?_
    cases k with
    | true =>
      refine ⟨b, He, H0e, ρ, B1, H01, s1, ?_⟩
      rw [if_pos rfl] at q
      cases h2 : m1 ρ B1 with
      | bad => rw [h2] at q; exact q.elim
      | ok e2 B2 => rw [h2] at q; exact fun v H02 H2 g2 s2 r2 => q v H02 H2 (g1.trans g2) s2 (r2.back g1)
    | false =>
      refine ⟨b, He, H0e, ρ, B1, H01, s1, ?_⟩
      rw [if_neg Bool.false_ne_true] at q
      cases h2 : m2 ρ B1 with
      | bad => rw [h2] at q; exact q.elim
      | ok e2 B2 => rw [h2] at q; exact fun v H02 H2 g2 s2 r2 => q v H02 H2 (g1.trans g2) s2 (r2.back g1)
theorem me_if {tc : TM} (hc : MT X e tc) (ha : ME X a m1) (hb : ME X c m2) : ME X (.IfExp e a c pos) (eIf tc m1 m2) := PE.weak (pe_ifExp hc ha hb) fun _ _ _ => if_rd
theorem bool_inv {b : Addr × Addr} {H H0 H' : Hp} {v : V} {e : EV} {k : Bool} (r : VR b H H0 H' v e) (h : boolOf e = some k) : v = .bl k := by
  cases e with
  | ow d => cases h
  | bg => cases h
  | sh d =>
    cases d with
    | bool k' => cases h; exact Dn.bl_inv r
    | _ => cases h
theorem me_and {rest : List Expr} (ha : ME X a m1) (hb : ME X (.BoolOp .And (c :: rest) pos) m2) : ME X (.BoolOp .And (a :: c :: rest) pos) (eAnd m1 m2) := PE.weak (pe_and ha hb) fun σ H Q ⟨b, He, H0e, ρ, B, H0, s, q⟩ => by
  unfold eAnd at q
  cases h1 : m1 ρ B with
  | bad => rw [h1] at q; exact q.elim
  | ok e1 B1 =>
    rw [h1, bind_ok] at q
    refine rdE_at s h1 fun v H01 H1 g1 s1 r1 => ?_
    cases hk : boolOf e1 with
    | none => rw [hk] at q; exact q.elim
    | some k =>
      rw [hk] at q
      refine ⟨k, bool_inv r1 hk, ?_⟩
      cases k with
      | false => exact q _ H01 H1 g1 s1 (.bl false)
      | true =>
        show rdE m2 σ H1 Q
        refine ⟨b, He, H0e, ρ, B1, H01, s1, ?_⟩
        simp only [if_true] at q
        cases h2 : m2 ρ B1 with
        | bad => rw [h2] at q; exact q.elim
        | ok e2 B2 => rw [h2] at q; exact fun v H02 H2 g2 s2 r2 => q v H02 H2 (g1.trans g2) s2 (r2.back g1)
theorem me_or {rest : List Expr} (ha : ME X a m1) (hb : ME X (.BoolOp .Or (c :: rest) pos) m2) : ME X (.BoolOp .Or (a :: c :: rest) pos) (eOr m1 m2) := PE.weak (pe_or ha hb) fun σ H Q ⟨b, He, H0e, ρ, B, H0, s, q⟩ => by
  unfold eOr at q
  cases h1 : m1 ρ B with
  | bad => rw [h1] at q; exact q.elim
  | ok e1 B1 =>
    rw [h1, bind_ok] at q
    refine rdE_at s h1 fun v H01 H1 g1 s1 r1 => ?_
    cases hk : boolOf e1 with
    | none => rw [hk] at q; exact q.elim
    | some k =>
      rw [hk] at q
      refine ⟨k, bool_inv r1 hk, ?_⟩
      cases k with
      | true => exact q _ H01 H1 g1 s1 (.bl true)
      | false =>
        show rdE m2 σ H1 Q
        refine ⟨b, He, H0e, ρ, B1, H01, s1, ?_⟩
        simp only [Bool.false_eq_true, if_false] at q
        cases h2 : m2 ρ B1 with
        | bad => rw [h2] at q; exact q.elim
        | ok e2 B2 => rw [h2] at q; exact fun v H02 H2 g2 s2 r2 => q v H02 H2 (g1.trans g2) s2 (r2.back g1)
theorem me_one {op} (h : ME X a m) : ME X (.BoolOp op [a] pos) m := pe_one h
theorem me_not (ha : ME X a m1) : ME X (.UnaryOp .Not a pos) (eNot m1) := PE.weak (pe_not ha) fun σ H Q ⟨b, He, H0e, ρ, B, H0, s, q⟩ => by
  unfold eNot at q
  cases h1 : m1 ρ B with
  | bad => rw [h1] at q; exact q.elim
  | ok e1 B1 =>
    rw [h1, bind_ok] at q
    refine rdE_at s h1 fun v H01 H1 g1 s1 r1 => ?_
    cases hk : boolOf e1 with
    | none => rw [hk] at q; exact q.elim
    | some k =>
      rw [hk] at q
      exact ⟨k, bool_inv r1 hk, q _ H01 H1 g1 s1 (.bl _)⟩
theorem mt_not {t : TM} (ha : MT X a t) : MT X (.UnaryOp .Not a pos) (tNotM t) := PT.weak (pt_not ha) fun σ H Q ⟨b, He, H0e, ρ, B, H0, s, q⟩ => by
  unfold tNotM at q
  cases h1 : t ρ B with
  | bad => rw [h1] at q; exact q.elim
  | ok e1 B1 =>
    rw [h1, bind_ok] at q
    exact rdT_at s h1 fun H01 H1 g1 s1 => q H01 H1 g1 s1
abbrev MW (X : Cx) (e : Expr) (m : TM) : Prop := PW X e (rdT m)
theorem PW.weak {t t' : TT} (h : PW X e t) (w : ∀ σ H Q, t' σ H Q → t σ H Q) : PW X e t' := ⟨fun whole pins s σ H Q I q => h.run whole pins s σ H Q I (w σ H Q q)⟩
theorem mw_and1 {t : TM} (ha : MT X a t) : MW X (.BoolOp .And [a] pos) t := pw_and1 ha
theorem mw_or1 {t : TM} (ha : MT X a t) : MW X (.BoolOp .Or [a] pos) t := pw_or1 ha
theorem mw_and {t u : TM} {rest : List Expr} (ha : MT X a t) (hb : MW X (.BoolOp .And (c :: rest) pos) u) : MW X (.BoolOp .And (a :: c :: rest) pos) (tAndM t u) := PW.weak (pw_and ha hb) fun σ H Q ⟨b, He, H0e, ρ, B, H0, s, q⟩ => by
  unfold tAndM at q
  cases h1 : t ρ B with
  | bad => rw [h1] at q; exact q.elim
  | ok k B1 =>
    rw [h1, bind_ok] at q
    refine rdT_at s h1 fun H01 H1 g1 s1 => ?_
    cases k with
    | false => exact q H01 H1 g1 s1
    | true =>
      show rdT u σ H1 Q
      refine ⟨b, He, H0e, ρ, B1, H01, s1, ?_⟩
      simp only [if_true] at q
      cases h2 : u ρ B1 with
      | bad => rw [h2] at q; exact q.elim
      | ok e2 B2 => rw [h2] at q; exact fun H02 H2 g2 s2 => q H02 H2 (g1.trans g2) s2
theorem mw_or {t u : TM} {rest : List Expr} (ha : MT X a t) (hb : MW X (.BoolOp .Or (c :: rest) pos) u) : MW X (.BoolOp .Or (a :: c :: rest) pos) (tOrM t u) := PW.weak (pw_or ha hb) fun σ H Q ⟨b, He, H0e, ρ, B, H0, s, q⟩ => by
  unfold tOrM at q
  cases h1 : t ρ B with
  | bad => rw [h1] at q; exact q.elim
  | ok k B1 =>
    rw [h1, bind_ok] at q
    refine rdT_at s h1 fun H01 H1 g1 s1 => ?_
    cases k with
    | true => exact q H01 H1 g1 s1
    | false =>
      show rdT u σ H1 Q
      refine ⟨b, He, H0e, ρ, B1, H01, s1, ?_⟩
      simp only [Bool.false_eq_true, if_false] at q
      cases h2 : u ρ B1 with
      | bad => rw [h2] at q; exact q.elim
      | ok e2 B2 => rw [h2] at q; exact fun H02 H2 g2 s2 => q H02 H2 (g1.trans g2) s2
theorem mt_w {t : TM} (h : MW X a t) : MT X a t := h.pt
theorem truD_ok {K : PySem.W.Frag} {H0 H : Hp} {v : V} {d : PyData} {k : Bool} (l : Le H0 H) (r : Dn H0 v d) (h : truD d = some k) : TruV K v H k := by
  cases d with
  | none => cases r; cases h; rfl
  | bool b => cases r; cases h; rfl
  | int i => cases r; cases h; rfl
  | str y =>
    cases r
    simp only [truD] at h
    split at h
    · cases h; exact ⟨by assumption, rfl⟩
    · cases h
  | list xs =>
    cases h
    obtain ⟨a, ys, rfl, e, al⟩ := r.lst_inv
    refine .inl ⟨ys, .inl (.inl (l _ _ e)), ?_⟩
    have := al.length
    cases ys <;> cases xs <;> simp_all
  | tuple xs =>
    cases h
    obtain ⟨a, ys, rfl, e, al⟩ := r.tup_inv
    refine .inr (.inl ⟨ys, .inl (.inl (l _ _ e)), ?_⟩)
    have := al.length
    cases ys <;> cases xs <;> simp_all
  | dict xs => cases h
theorem mt_val (h : ME X a m) (he : ∀ whole, isTrue a X.env whole = (do let v ← whole; standAt a.pos; holding [v] (truthy v)) := by intro _; rfl) : MT X a (tVal m) := PT.weak (pt_truth h he) fun σ H Q ⟨b, He, H0e, ρ, B, H0, s, q⟩ => by
  unfold tVal at q
  cases h1 : m ρ B with
  | bad => rw [h1] at q; exact q.elim
  | ok e1 B1 =>
    rw [h1, bind_ok] at q
    refine rdE_at s h1 fun v H01 H1 g1 s1 r1 => ?_
    cases hd1 : e1.data with
    | none => rw [hd1] at q; exact q.elim
    | some d1 =>
      obtain ⟨H02, g2, s2, D1⟩ := s.data g1 s1 r1 hd1
      rw [hd1] at q
      cases hg : truD d1 with
      | none => simp [hg] at q
      | some k =>
        simp [hg] at q
        exact ⟨k, truD_ok s2.hr.le D1 hg, q H02 H1 g2 s2⟩
/-! ### arguments, displays, calls -/
theorem ma_nil : MA X [] aNil := PA.weak pa_nil fun σ H Q ⟨b, He, H0e, ρ, B, H0, s, q⟩ => q [] H0 H (Gr.refl s.hr.fb) s .nil
theorem ma_cons {ms : AM} (ha : ME X e m) (hr : MA X es ms) (hs : starEach (e :: es) X.env = (false, eval e X.env) :: starEach es X.env := by rfl) : MA X (e :: es) (aCons m ms) := PA.weak (pa_cons ha hr hs) fun σ H Q ⟨b, He, H0e, ρ, B, H0, s, q⟩ => by
  unfold aCons at q
  cases h1 : m ρ B with
  | bad => rw [h1] at q; exact q.elim
  | ok e1 B1 =>
    rw [h1, bind_ok] at q
    refine rdE_at s h1 fun v H01 H1 g1 s1 r1 => ?_
    cases h2 : ms ρ B1 with
    | bad => rw [h2] at q; exact q.elim
    | ok es2 B2 =>
      rw [h2, bind_ok] at q
      cases hd1 : e1.data with
      | none =>
        refine rdA_at s1 h2 fun vs H03 H3 g3 s3 r3 => ?_
        cases e1 with
        | sh d => cases hd1
        | ow d => cases hd1
        | bg =>
          have : v = .ref b.1 := r1
          subst this
          exact q _ H03 H3 (g1.trans g3) s3 (.bg r3)
      | some d1 =>
        obtain ⟨H02, g2, s2, D1⟩ := s.data g1 s1 r1 hd1
        refine rdA_at s2 h2 fun vs H03 H3 g3 s3 r3 => ?_
        have : e1.share = .sh d1 := by cases e1 <;> cases hd1 <;> rfl
        rw [this] at q
        exact q _ H03 H3 (g2.trans g3) s3 (.sh (Dn.mono g3.l0 _ _ D1) r3)
theorem me_tup {ms : AM} {x1} (h : MA X es ms) : ME X (.Tuple es x1 pos) (eTup ms) := PE.weak (pe_tup h) fun σ H Q ⟨b, He, H0e, ρ, B, H0, s, q⟩ => by
  unfold eTup at q
  cases h1 : ms ρ B with
  | bad => rw [h1] at q; exact q.elim
  | ok es1 B1 =>
    rw [h1, bind_ok] at q
    refine rdA_at s h1 fun vs H01 H1 g1 s1 r1 => ?_
    cases hd : dataAll es1 with
    | none => rw [hd] at q; exact q.elim
    | some ds =>
      rw [hd] at q
      have ra := r1.all hd
      by_cases hl : ds.length ≤ sizeLine
      · simp only [if_pos hl] at q
        refine ⟨by rw [ra.length]; exact hl, fun p hp => ?_⟩
        obtain ⟨H05, g5, s5, r5⟩ := NewRes.ok (z := .ref p) (e := .sh (.tuple ds)) (H' := upd H1 p (.tup vs)) s1 (.inr ⟨p, vs, ds, rfl, rfl, hp, rfl, ra⟩)
        exact q _ H05 _ (g1.trans g5) s5 (r5.back g1)
      · simp only [if_neg hl] at q
theorem me_lst {ms : AM} (h : MA X es ms) : ME X (.List es pos) (eLst ms) := PE.weak (pe_lst h) fun σ H Q ⟨b, He, H0e, ρ, B, H0, s, q⟩ => by
  unfold eLst at q
  cases h1 : ms ρ B with
  | bad => rw [h1] at q; exact q.elim
  | ok es1 B1 =>
    rw [h1, bind_ok] at q
    refine rdA_at s h1 fun vs H01 H1 g1 s1 r1 => ?_
    cases hd : dataAll es1 with
    | none => rw [hd] at q; exact q.elim
    | some ds =>
      rw [hd] at q
      have ra := r1.all hd
      by_cases hl : ds.length ≤ sizeLine
      · simp only [if_pos hl] at q
        refine ⟨by rw [ra.length]; exact hl, fun p hp => ?_⟩
        obtain ⟨H05, g5, s5, r5⟩ := NewRes.ok (z := .ref p) (e := .ow (.list ds)) (H' := upd H1 p (.lst vs)) s1 ⟨p, vs, ds, rfl, rfl, hp, rfl, ra⟩
        exact q _ H05 _ (g1.trans g5) s5 (r5.back g1)
      · simp only [if_neg hl] at q
/-- a def's promise by its mirror -/
def postF (b : Addr × Addr) (H0 H : Hp) (Q : VK) : Out EV → Prop
  | .ok e B' => ∀ v H0' H', Gr b H H0 H' H0' → HR b B' H0' H' → VR b H H0' H' v e → Q v H'
  | .bad => False
def spM (n : Nat) (mf : FM) : Sp := fun vs H Q _ => ∃ b B H0 es, HR b B H0 H ∧ VRs b H0 vs es ∧ es.length = n ∧ postF b H0 H Q (mf es B)
theorem call_rd {ms : AM} {mf : FM} {n : Nat} {E : XK} {σ : L2.St} {H : Hp} {Q : VK} (h : rdE (eCall n mf ms) σ H Q) : tCall (spM n mf) [] E (rdA ms) σ H Q := by
  obtain ⟨b, He, H0e, ρ, B, H0, s, q⟩ := h
  unfold eCall at q
  cases h1 : ms ρ B with
  | bad => rw [h1] at q; exact q.elim
  | ok es1 B1 =>
    rw [h1, bind_ok] at q
    refine rdA_at s h1 fun vs H01 H1 g1 s1 r1 => ?_
    by_cases hn : es1.length = n
    · simp only [if_pos hn] at q
      show spM n mf (vs ++ []) H1 Q E
      rw [List.append_nil]
      refine ⟨b, B1, H01, es1, s1.hr, r1, hn, ?_⟩
      cases h2 : mf es1 B1 with
      | bad => rw [h2] at q; exact q.elim
      | ok e2 B2 =>
        rw [h2] at q
        intro v H02 H2 g2 hr2 r2
        exact q v H02 H2 (g1.trans g2) (s1.more g2 hr2) (r2.back g1)
    · simp only [if_neg hn] at q
end
end Mr
namespace Mr
open PySem PySem.Spec PyProof.Rows L2
variable [Wd]

/-! ### defs by their mirrors -/
def mfn (nN : Nat) (ms : SM) : FM := fun es B => match ms (es.map some ++ List.replicate (nN - es.length) none) B with
  | .ok (.rt e) B' => .ok e B'
  | .ok (.nx _) B' => .ok (.sh .none) B'
  | _ => .bad
theorem VRs.get {b : Addr × Addr} {H0 He H : Hp} {vs : List V} {es : List EV} (h : VRs b H0 vs es) : ∀ (i : Nat) (e : EV), es[i]? = some e → (∃ v, vs[i]? = some v ∧ VR b He H0 H v e) ∧ ∀ d, e ≠ .ow d := by
  induction h with
  | nil => intro i e he; simp at he
  | sh a _ ih =>
    intro i e he
    cases i with
    | zero => simp at he; subst he; exact ⟨⟨_, rfl, a⟩, fun d => nofun⟩
    | succ i => simpa using ih i e (by simpa using he)
  | bg _ ih =>
    intro i e he
    cases i with
    | zero => simp at he; subst he; exact ⟨⟨_, rfl, rfl⟩, fun d => nofun⟩
    | succ i => simpa using ih i e (by simpa using he)
theorem SR.start {b : Addr × Addr} {B : Bag} {H0 H : Hp} {N : List Str} {vs : List V} {es : List EV} (hr : HR b B H0 H) (h : VRs b H0 vs es) : SR b H H0 (L2.start N vs) (es.map some ++ List.replicate (N.length - es.length) none) B H0 H := by
  have hl := h.length
  have key : ∀ (i : Nat) e, (es.map some ++ List.replicate (N.length - es.length) none)[i]? = some (some e) → es[i]? = some e := by
    intro i e he
    by_cases hi : i < es.length
    · rw [List.getElem?_append_left (by simpa using hi)] at he
      simp only [List.getElem?_map] at he
      cases q : es[i]? with
      | none => rw [q] at he; cases he
      | some e' => rw [q] at he; cases he; rfl
    · rw [List.getElem?_append_right (by simpa using hi), List.getElem?_replicate] at he
      split at he <;> cases he
  refine ⟨hr, Gr.refl hr.fb, by simp [L2.start, hl], fun i e he => ?_, fun i j d d' _ hi _ => ?_⟩
  · obtain ⟨⟨v, hv, r⟩, _⟩ := h.get (He := H) (H := H) i e (key i e he)
    refine ⟨v, ?_, r⟩
    have hi : i < vs.length := (List.getElem?_eq_some_iff.mp hv).1
    unfold L2.start
    rw [List.getElem?_append_left (by simpa using hi), List.getElem?_map, hv]
    rfl
  · exact absurd rfl ((h.get (He := H) (H := H) i _ (key i _ hi)).2 d)
/-! ### statements -/
def sSkip : SM := fun ρ B => .ok (.nx ρ) B
def sSeq (m1 m2 : SM) : SM := fun ρ B => match m1 ρ B with
  | .ok (.nx ρ1) B1 => m2 ρ1 B1
  | o => o
def sSet (i : Nat) (m : EM) : SM := fun ρ B => (m ρ B).bind fun e B1 => if i < ρ.length then .ok (.nx (ρ.set i (some e))) B1 else .bad
def sUnp (f : PyData → Env → Option Env) (m : EM) : SM := fun ρ B => (m ρ B).bind fun e B1 => match e.data.bind fun d => f d ρ with
  | some ρ1 => .ok (.nx ρ1) B1
  | none => .bad
def sIf (c : TM) (m1 m2 : SM) : SM := fun ρ B => (c ρ B).bind fun k B1 => if k then m1 ρ B1 else m2 ρ B1
def sRet (m : EM) : SM := fun ρ B => (m ρ B).bind fun e B1 => .ok (.rt e) B1
def sExpr (m : EM) : SM := fun ρ B => (m ρ B).bind fun _ B1 => .ok (.nx ρ) B1
def sPar (i j : Nat) (ms : AM) : SM := fun ρ B => (ms ρ B).bind fun es B1 => match es with
  | [e1, e2] => if i < ρ.length ∧ j < ρ.length then .ok (.nx ((ρ.set i (some e1)).set j (some e2))) B1 else .bad
  | _ => .bad
section
variable {b : Addr × Addr} {He H0e H0 H H' H0' : Hp} {σ : L2.St} {ρ : Env} {B B' : Bag}
/-- a slot is set -/
theorem SR.set (s : SR b He H0e σ ρ B H0 H) {i : Nat} {v : V} {e : EV} (hi : i < ρ.length) (r : VR b He H0 H v e) (ne : ∀ d, e = .ow d → ∀ (j : Nat) d', j ≠ i → ρ[j]? = some (some (.ow d')) → σ[j]? ≠ some (some v)) : SR b He H0e (σ.set i (some v)) (ρ.set i (some e)) B H0 H := by
  have hiσ : i < σ.length := by rw [s.len]; exact hi
  refine ⟨s.hr, s.gr, by simp [s.len], fun j e' he => ?_, fun j k d d' hjk hj hk => ?_⟩
  · by_cases h : i = j
    · subst h
      rw [List.getElem?_set_self hi] at he
      cases he
      exact ⟨v, List.getElem?_set_self hiσ, r⟩
    · rw [List.getElem?_set_ne h] at he ⊢
      exact s.slot j e' he
  · by_cases h : i = j
    · subst h
      rw [List.getElem?_set_self hi] at hj
      cases hj
      rw [List.getElem?_set_ne hjk] at hk ⊢
      rw [List.getElem?_set_self hiσ]
      exact fun z => ne d rfl k d' (Ne.symm hjk) hk z.symm
    · by_cases h' : i = k
      · subst h'
        rw [List.getElem?_set_self hi] at hk
        cases hk
        rw [List.getElem?_set_ne h] at hj ⊢
        rw [List.getElem?_set_self hiσ]
        exact ne d' rfl j d (Ne.symm h) hj
      · rw [List.getElem?_set_ne h] at hj
        rw [List.getElem?_set_ne h'] at hk
        rw [List.getElem?_set_ne h, List.getElem?_set_ne h']
        exact s.own j k d d' hjk hj hk
/-- .. by an expression's value -/
theorem SR.setE {B1 : Bag} {H1 H01 : Hp} (s : SR b He H0e σ ρ B H0 H) (g : Gr b H H0 H1 H01) (s1 : SR b He H0e σ ρ B1 H01 H1) {i : Nat} {v : V} {e : EV} (hi : i < ρ.length) (r : VR b H H01 H1 v e) : SR b He H0e (σ.set i (some v)) (ρ.set i (some e)) B1 H01 H1 := by
  refine s1.set hi (r.back s.gr) fun d hd j d' hj ho hz => ?_
  subst hd
  obtain ⟨p, vs, ds, rfl, hb, h1, _⟩ := r
  obtain ⟨⟨o, q⟩, _⟩ := s.ownH ho hz
  rw [h1] at q; cases q
end
section
variable {X : Cx} {a c e : Expr} {es : List Expr} {m m1 m2 : EM} {pos : Pos}
theorem mss_nil : MSs X [] sSkip := PSs.weak pss_nil fun D σ H ⟨b, He, H0e, ρ, B, H0, s, q⟩ => q σ H0 H (Le.refl _) s
theorem seq_rd {m1 m2 : SM} {D : Ends} {σ : L2.St} {H : Hp} (h : rdS (sSeq m1 m2) D σ H) : tSeq (rdS m1) (rdS m2) D σ H := by
  obtain ⟨b, He, H0e, ρ, B, H0, s, q⟩ := h
  refine ⟨b, He, H0e, ρ, B, H0, s, ?_⟩
  unfold sSeq at q
  cases h1 : m1 ρ B with
  | bad => rw [h1] at q; exact q.elim
  | ok fl B1 =>
    rw [h1] at q
    cases fl with
    | nx ρ1 => exact fun σ1 H01 H1 l1 s1 => ⟨b, He, H0e, ρ1, B1, H01, s1, q.mono l1⟩
    | rt e => exact q
    | bk ρ1 => exact q
    | ct ρ1 => exact q
theorem mss_cons {st : Stmt} {rest : List Stmt} {m1 m2 : SM} (h1 : MS X st m1) (h2 : MSs X rest m2) : MSs X (st :: rest) (sSeq m1 m2) := PSs.weak (pss_cons h1 h2) fun _ _ _ => seq_rd
theorem mss_one {st : Stmt} {m1 : SM} (h1 : MS X st m1) : MSs X [st] m1 := pss_one h1
theorem set_rd {i : Nat} {te : TE} {D : Ends} {σ : L2.St} {H : Hp} (ht : ∀ σ H Q, rdE m σ H Q → te σ H Q) (h : rdS (sSet i m) D σ H) : tAsg te (gName i) D σ H := by
  obtain ⟨b, He, H0e, ρ, B, H0, s, q⟩ := h
  unfold sSet at q
  cases h1 : m ρ B with
  | bad => rw [h1] at q; exact q.elim
  | ok e1 B1 =>
    rw [h1, bind_ok] at q
    refine ht _ _ _ (rdE_at s h1 fun v H01 H1 g1 s1 r1 => ?_)
    by_cases hi : i < ρ.length
    · rw [if_pos hi] at q
      exact q _ H01 H1 g1.l0 (s.setE g1 s1 hi r1)
    · rw [if_neg hi] at q; exact q.elim
theorem ms_set {i : Nat} {x : Str} {pos' : Pos} (hN : X.N.Nodup) (hi : X.N[i]? = some x) (hx : Loc X.env.scope x) (he : ME X e m) (hs : swapsWith e (some (.Name x pos')) pos.line X.env = pure false := by rfl) (hf : X.fn x = true ∨ X.env.scope.names.lookup x = some .local := by first | exact .inl rfl | exact .inr rfl | assumption) :
    MS X (.Assign [.Name x pos'] e pos) (sSet i m) := PS.weak (ps_set hN hi hx he hs hf) fun _ _ _ => set_rd fun _ _ _ h => h
theorem ms_if {tc : TM} {p q : List Stmt} {m1 m2 : SM} (hc : MT X c tc) (ha : MSs X p m1) (hb : MSs X q m2) : MS X (.If c p q pos) (sIf tc m1 m2) := PS.weak (ps_if hc ha hb) fun D σ H ⟨b, He, H0e, ρ, B, H0, s, q⟩ => by
  unfold sIf at q
  cases h1 : tc ρ B with
  | bad => rw [h1] at q; exact q.elim
  | ok k B1 =>
    rw [h1, bind_ok] at q
    refine rdT_at s h1 fun H01 H1 g1 s1 => ?_
    cases k with
    | true => exact ⟨b, He, H0e, ρ, B1, H01, s1, q.mono g1.l0⟩
    | false => exact ⟨b, He, H0e, ρ, B1, H01, s1, q.mono g1.l0⟩
theorem ms_ret (he : ME X e m) : MS X (.Return (some e) pos) (sRet m) := PS.weak (ps_ret he) fun D σ H ⟨b, He, H0e, ρ, B, H0, s, q⟩ => by
  unfold sRet at q
  cases h1 : m ρ B with
  | bad => rw [h1] at q; exact q.elim
  | ok e1 B1 =>
    rw [h1, bind_ok] at q
    exact rdE_at s h1 fun v H01 H1 g1 s1 r1 => q v H01 H1 s1.hr s1.gr (r1.back s.gr)
theorem ms_expr (he : ME X e m) (hs : swapsWith e none pos.line X.env = pure false := by rfl) : MS X (.Expr e pos) (sExpr m) := PS.weak (ps_expr he hs) fun D σ H ⟨b, He, H0e, ρ, B, H0, s, q⟩ => by
  unfold sExpr at q
  cases h1 : m ρ B with
  | bad => rw [h1] at q; exact q.elim
  | ok e1 B1 =>
    rw [h1, bind_ok] at q
    exact rdE_at s h1 fun v H01 H1 g1 s1 r1 => q σ H01 H1 g1.l0 s1
/-! ### targets -/
def rdG (is : List Nat) (f : PyData → Env → Option Env) : TG := fun v σ H Q => ∃ b He H0e ρ B H0 d ρ', SR b He H0e σ ρ B H0 H ∧ Dn H0 v d ∧ f d ρ = some ρ' ∧
  ∀ σ', SR b He H0e σ' ρ' B H0 H → σ'.length = σ.length → (∀ i, i ∉ is → σ'[i]? = σ[i]?) → Q σ' H
def rdGs (is : List Nat) (f : List PyData → Env → Option Env) : TGs := fun vs σ H Q => ∃ b He H0e ρ B H0 ds ρ', SR b He H0e σ ρ B H0 H ∧ DnAll H0 vs ds ∧ f ds ρ = some ρ' ∧
  ∀ σ', SR b He H0e σ' ρ' B H0 H → σ'.length = σ.length → (∀ i, i ∉ is → σ'[i]? = σ[i]?) → Q σ' H
abbrev MG (X : Cx) (tg : Expr) (is : List Nat) (f : PyData → Env → Option Env) : Prop := PG X tg (rdG is f)
abbrev MGs (X : Cx) (tg : List Expr) (is : List Nat) (f : List PyData → Env → Option Env) : Prop := PGs X tg (rdGs is f)
theorem PG.weak {tg : Expr} {t t' : TG} (h : PG X tg t) (w : ∀ v σ H Q, t' v σ H Q → t v σ H Q) : PG X tg t' := by
  obtain ⟨h⟩ := h
  constructor
  intros
  apply h <;> first | assumption | (apply w; assumption)
theorem PGs.weak {tg : List Expr} {t t' : TGs} (h : PGs X tg t) (w : ∀ v σ H Q, t' v σ H Q → t v σ H Q) : PGs X tg t' := by
  obtain ⟨h⟩ := h
  constructor
  intros
  apply h <;> first | assumption | (apply w; assumption)
def fName (i : Nat) : PyData → Env → Option Env := fun d ρ => if i < ρ.length then some (ρ.set i (some (.sh d))) else none
def fNil : List PyData → Env → Option Env := fun ds ρ => match ds with
  | [] => some ρ
  | _ => none
def fCons (f : PyData → Env → Option Env) (g : List PyData → Env → Option Env) : List PyData → Env → Option Env := fun ds ρ => match ds with
  | d :: r => (f d ρ).bind (g r)
  | [] => none
def fTup (n : Nat) (g : List PyData → Env → Option Env) : PyData → Env → Option Env := fun d ρ => match d with
  | .tuple ds => if ds.length = n then g ds ρ else none
  | _ => none
theorem mg_name {i : Nat} {x : Str} (hN : X.N.Nodup) (hi : X.N[i]? = some x) (hx : Loc X.env.scope x) (hf : X.fn x = true ∨ X.env.scope.names.lookup x = some .local := by first | exact .inl rfl | exact .inr rfl | assumption) : MG X (.Name x pos) [i] (fName i) :=
  PG.weak (pg_name hN hi hx hf) fun v σ H Q ⟨b, He, H0e, ρ, B, H0, d, ρ', s, r, hf, q⟩ => by
    unfold fName at hf
    split at hf
    · cases hf
      refine q _ (s.set (by assumption) r fun d hd => nomatch hd) (by simp) fun j hj => ?_
      rw [List.getElem?_set_ne (fun z => hj (by simp [z]))]
    · cases hf
theorem mgs_nil : MGs X [] [] fNil := PGs.weak pgs_nil fun v σ H Q ⟨b, He, H0e, ρ, B, H0, ds, ρ', s, r, hf, q⟩ => by
  cases ds with
  | nil => cases hf; cases r; exact ⟨rfl, q σ s rfl fun _ _ => rfl⟩
  | cons d ds => cases hf
theorem mgs_cons {tg : Expr} {tgs : List Expr} {is js : List Nat} {f : PyData → Env → Option Env} {g : List PyData → Env → Option Env} (h1 : MG X tg is f) (h2 : MGs X tgs js g)
    (hs : (assignEach (tg :: tgs) X.env).map (·.2) = assign tg X.env :: (assignEach tgs X.env).map (·.2) := by rfl) : MGs X (tg :: tgs) (is ++ js) (fCons f g) := PGs.weak (pgs_cons h1 h2 hs) fun v σ H Q ⟨b, He, H0e, ρ, B, H0, ds, ρ', s, r, hf, q⟩ => by
  cases ds with
  | nil => cases hf
  | cons d ds =>
    cases r with
    | cons r1 r2 =>
      simp only [fCons] at hf
      cases hf1 : f d ρ with
      | none => rw [hf1] at hf; cases hf
      | some ρ1 =>
        rw [hf1] at hf
        refine ⟨_, _, rfl, b, He, H0e, ρ, B, H0, d, ρ1, s, r1, hf1, fun σ1 s1 l1 k1 => ⟨b, He, H0e, ρ1, B, H0, ds, ρ', s1, r2, hf, fun σ2 s2 l2 k2 => q σ2 s2 (l2.trans l1) fun i hi => ?_⟩⟩
        rw [k2 i (fun z => hi (List.mem_append_right _ z)), k1 i (fun z => hi (List.mem_append_left _ z))]
theorem mg_tup {tgs : List Expr} {k n : Nat} {is : List Nat} {g : List PyData → Env → Option Env} (hc : X.calm = true) (h : MGs X tgs is g)
    (hn : (assignEach tgs X.env).length = n := by rfl) (hst : (assignEach tgs X.env).findIdx? (·.1) = none := by rfl) : MG X (.Tuple tgs k pos) is (fTup n g) := PG.weak (pg_tup hc h hn hst) fun v σ H Q ⟨b, He, H0e, ρ, B, H0, d, ρ', s, r, hf, q⟩ => by
  cases d with
  | tuple ds =>
    simp only [fTup] at hf
    split at hf
    · rename_i hl
      obtain ⟨a, xs, rfl, e, al⟩ := r.tup_inv
      exact ⟨a, xs, rfl, .inl (.inl (s.hr.le _ _ e)), by rw [al.length, hl], b, He, H0e, ρ, B, H0, ds, ρ', s, al, hf, q⟩
    · cases hf
  | _ => cases hf
theorem ms_unp {tg : Expr} {is : List Nat} {f : PyData → Env → Option Env} (he : ME X e m) (hg : MG X tg is f) (hs : swapsWithSole [tg] e pos.line X.env = pure false := by rfl) (hw : swappedStores [tg] e X.env = pure none := by rfl)
    (h1 : (assignEach [tg] X.env).map (·.2) = [assign tg X.env] := by rfl) : MS X (.Assign [tg] e pos) (sUnp f m) := PS.weak (ps_asg he hg hs hw h1) fun D σ H ⟨b, He, H0e, ρ, B, H0, s, q⟩ => by
  unfold sUnp at q
  cases h1 : m ρ B with
  | bad => rw [h1] at q; exact q.elim
  | ok e1 B1 =>
    rw [h1, bind_ok] at q
    refine rdE_at s h1 fun v H01 H1 g1 s1 r1 => ?_
    cases hd1 : e1.data with
    | none => rw [hd1] at q; exact q.elim
    | some d1 =>
      obtain ⟨H02, g2, s2, D1⟩ := s.data g1 s1 r1 hd1
      rw [hd1] at q
      cases hf : f d1 ρ with
      | none => simp [hf] at q; exact q.elim
      | some ρ1 =>
        simp [hf] at q
        exact ⟨b, He, H0e, ρ, B1, H02, d1, ρ1, s2, D1, hf, fun σ' s' _ _ => q σ' H02 H1 g2.l0 s'⟩
theorem VRs.noOwn {b : Addr × Addr} {H0 : Hp} {vs : List V} {es : List EV} (h : VRs b H0 vs es) : ∀ e ∈ es, ∀ d, e ≠ .ow d := by
  induction h with
  | nil => intro e he; cases he
  | sh a _ ih => intro e he d; rcases List.mem_cons.mp he with rfl | he
                 · exact nofun
                 · exact ih e he d
  | bg _ ih => intro e he d; rcases List.mem_cons.mp he with rfl | he
               · exact nofun
               · exact ih e he d
theorem ms_par {i j : Nat} {x y : Str} {px py pt : Pos} {kt k2 pt2} {ms : AM} (hc : X.calm = true) (hN : X.N.Nodup) (hi : X.N[i]? = some x) (hj : X.N[j]? = some y) (hij : i ≠ j)
    (hx : X.env.scope.names.lookup x = some .local) (hy : X.env.scope.names.lookup y = some .local) (ha : MA X [a, c] ms)
    (hw : swappedStores [.Tuple [.Name x px, .Name y py] kt pt] (.Tuple [a, c] k2 pt2) X.env = pure (some [x, y]))
    (hs : swapsWithSole [.Tuple [.Name x px, .Name y py] kt pt] (.Tuple [a, c] k2 pt2) pos.line X.env = pure false := by rfl) :
    MS X (.Assign [.Tuple [.Name x px, .Name y py] kt pt] (.Tuple [a, c] k2 pt2) pos) (sPar i j ms) := PS.weak (ps_par hc hN hi hj hij hx hy ha hw hs) fun D σ H ⟨b, He, H0e, ρ, B, H0, s, q⟩ => by
  unfold sPar at q
  cases h1 : ms ρ B with
  | bad => rw [h1] at q; exact q.elim
  | ok es1 B1 =>
    rw [h1, bind_ok] at q
    refine rdA_at s h1 fun vs H01 H1 g1 s1 r1 => ?_
    match es1, r1, q with
    | [], _, q => exact q.elim
    | [_], _, q => exact q.elim
    | _ :: _ :: _ :: _, _, q => exact q.elim
    | [e1, e2], r1, q =>
      by_cases hl : i < ρ.length ∧ j < ρ.length
      · simp only [if_pos hl] at q
        obtain ⟨⟨v1, hv1, R1⟩, n1⟩ := r1.get (He := He) (H := H1) 0 e1 rfl
        obtain ⟨⟨v2, hv2, R2⟩, n2⟩ := r1.get (He := He) (H := H1) 1 e2 rfl
        have hlen := r1.length
        match vs, hlen, hv1, hv2 with
        | [w1, w2], _, hv1, hv2 =>
          cases hv1; cases hv2
          have sA := s1.set (i := i) hl.1 R1 fun d hd => absurd hd (n1 d)
          have sB := sA.set (i := j) (by simpa using hl.2) R2 fun d hd => absurd hd (n2 d)
          exact ⟨v1, v2, rfl, q _ H01 H1 g1.l0 sB⟩
      · simp only [if_neg hl] at q; exact q.elim
end
end Mr
namespace Mr
open PySem PySem.Spec PyProof.Rows L2
variable [Wd]

/-! ### what is walked -/
abbrev IM := Env → Bag → Out (List PyData)
structure IterOk (J : It) (ds : List PyData) (H0 : Hp) : Prop where
  go : ∀ (H : Hp) (i : Nat) d, Le H0 H → ds[i]? = some d → J.go i H ∧ ∀ x H', J.yld i H x H' → NewRes H0 H x H' (.sh d)
  stop : ∀ (H : Hp) (i : Nat), Le H0 H → ds[i]? = none → J.stop i H
def rdI (mi : IM) : TI := fun σ H R => ∃ b He H0e ρ B H0, SR b He H0e σ ρ B H0 H ∧ match mi ρ B with
  | .ok ds B' => ∀ J H0' H', Gr b H H0 H' H0' → SR b He H0e σ ρ B' H0' H' → IterOk J ds H0' → R J H'
  | .bad => False
abbrev MI (X : Cx) (tg iter : Expr) (mi : IM) : Prop := PI X tg iter (rdI mi)
def itemsD : PyData → Option (List PyData)
  | .list ds => some ds
  | .tuple ds => some ds
  | .str x => some (x.cps.toList.map fun c => .str ⟨#[c]⟩)
  | _ => none
def iVal (m : EM) : IM := fun ρ B => (m ρ B).bind fun e B1 => match e.data.bind itemsD with
  | some ds => .ok ds B1
  | none => .bad
def rangeD (lo hi : Int) : List PyData := (List.range (hi - lo).toNat).map fun (k : Nat) => PyData.int (lo + (k : Int))
def one : List EV → Option PyData
  | [.sh d1] => some d1
  | _ => none
def iRange (ms : AM) : IM := fun ρ B => (ms ρ B).bind fun es B1 => match one es with
  | some (.int j) => if -(2 ^ 62) ≤ j ∧ j < 2 ^ 62 then .ok (rangeD 0 j) B1 else .bad
  | _ => .bad
def two : List EV → Option (PyData × PyData)
  | [.sh d1, .sh d2] => some (d1, d2)
  | _ => none
def iRange2 (ms : AM) : IM := fun ρ B => (ms ρ B).bind fun es B1 => match two es with
  | some (.int i, .int j) => if -(2 ^ 62) ≤ i ∧ i < 2 ^ 62 ∧ -(2 ^ 62) ≤ j ∧ j < 2 ^ 62 then .ok (rangeD i j) B1 else .bad
  | _ => .bad
def zipD (xs ys : List PyData) : List PyData := (xs.zip ys).map fun p => .tuple [p.1, p.2]
def iZipM (ms : AM) : IM := fun ρ B => (ms ρ B).bind fun es B1 => match two es with
  | some (.list xs, .list ys) => .ok (zipD xs ys) B1
  | _ => .bad
def enumD (xs : List PyData) : List PyData := xs.zipIdx.map fun p => .tuple [.int (p.2 : Int), p.1]
def iEnumM (ms : AM) : IM := fun ρ B => (ms ρ B).bind fun es B1 => match one es with
  | some (.list xs) => .ok (enumD xs) B1
  | _ => .bad

theorem iterOk_list {K : PySem.W.Frag} {H0 : Hp} {a : Addr} {xs : List V} {ds : List PyData} (h : H0 a = some (.lst xs)) (al : DnAll H0 xs ds) : IterOk (Itl K a) ds H0 where
  go := fun H i d l hd => by
    obtain ⟨v, hv, r⟩ := al.get hd
    have hs : SqL K H a xs := .inl (.inl (l _ _ h))
    refine ⟨⟨xs, v, hs, hv⟩, fun x H' hy => .inl ⟨hy.1, ?_⟩⟩
    have := hy.2 xs hs
    rw [hv] at this; cases this; exact r
  stop := fun H i l hd => by
    have hs : SqL K H a xs := .inl (.inl (l _ _ h))
    exact ⟨xs, hs, by rw [al.length]; exact List.getElem?_eq_none_iff.mp hd⟩
theorem iterOk_tup {K : PySem.W.Frag} {H0 : Hp} {a : Addr} {xs : List V} {ds : List PyData} (h : H0 a = some (.tup xs)) (al : DnAll H0 xs ds) : IterOk (Itt K a) ds H0 where
  go := fun H i d l hd => by
    obtain ⟨v, hv, r⟩ := al.get hd
    have hs : SqT K H a xs := .inl (.inl (l _ _ h))
    refine ⟨⟨xs, v, hs, hv⟩, fun x H' hy => .inl ⟨hy.1, ?_⟩⟩
    have := hy.2 xs hs
    rw [hv] at this; cases this; exact r
  stop := fun H i l hd => by
    have hs : SqT K H a xs := .inl (.inl (l _ _ h))
    exact ⟨xs, hs, by rw [al.length]; exact List.getElem?_eq_none_iff.mp hd⟩
theorem iterOk_str {H0 : Hp} {x : Str} : IterOk (Its x) (x.cps.toList.map fun c => PyData.str ⟨#[c]⟩) H0 where
  go := fun H i d l hd => by
    rw [List.getElem?_map] at hd
    cases hc : x.cps.toList[i]? with
    | none => rw [hc] at hd; cases hd
    | some c =>
      rw [hc] at hd; cases hd
      have hc' : x.cps[i]? = some c := by simpa using hc
      refine ⟨(Array.getElem?_eq_some_iff.mp hc').1, fun v H' hy => .inl ⟨hy.1, ?_⟩⟩
      obtain ⟨_, c', e1, rfl⟩ := hy
      rw [hc'] at e1; cases e1
      exact .str _
  stop := fun H i l hd => by
    have := List.getElem?_eq_none_iff.mp hd
    simpa [Its] using this
theorem iterOk_range {H0 : Hp} {lo hi : Int} : IterOk (Itr lo (hi - lo).toNat) (rangeD lo hi) H0 where
  go := fun H i d l hd => by
    unfold rangeD at hd
    rw [List.getElem?_map] at hd
    cases hc : (List.range (hi - lo).toNat)[i]? with
    | none => rw [hc] at hd; cases hd
    | some c =>
      rw [hc] at hd; cases hd
      obtain ⟨h1, h2⟩ := List.getElem?_eq_some_iff.mp hc
      simp at h1 h2
      subst h2
      refine ⟨by simpa [Itr] using h1, fun v H' hy => .inl ⟨hy.1, ?_⟩⟩
      have e : v = .int (lo + (i : Int)) := hy.2
      rw [e]; exact .int _
  stop := fun H i l hd => by
    have := List.getElem?_eq_none_iff.mp hd
    simpa [Itr, rangeD] using this
theorem VRs.two {b : Addr × Addr} {H0 : Hp} {vs : List V} {es : List EV} {p : PyData × PyData} (h : VRs b H0 vs es) (e : Mr.two es = some p) : ∃ v1 v2, vs = [v1, v2] ∧ Dn H0 v1 p.1 ∧ Dn H0 v2 p.2 := by
  unfold Mr.two at e
  split at e
  · cases e
    cases h with
    | sh a r =>
      cases r with
      | sh a2 r2 => cases r2; exact ⟨_, _, rfl, a, a2⟩
  · cases e
theorem VRs.one {b : Addr × Addr} {H0 : Hp} {vs : List V} {es : List EV} {p : PyData} (h : VRs b H0 vs es) (e : Mr.one es = some p) : ∃ v1, vs = [v1] ∧ Dn H0 v1 p := by
  unfold Mr.one at e
  split at e
  · cases e
    cases h with
    | sh a r => cases r; exact ⟨_, rfl, a⟩
  · cases e
theorem iterOk_zip {K : PySem.W.Frag} {H0 : Hp} {a c : Addr} {xs ys : List V} {ds es : List PyData} (h : H0 a = some (.lst xs)) (al : DnAll H0 xs ds) (h2 : H0 c = some (.lst ys)) (al2 : DnAll H0 ys es) : IterOk (Itz K a c) (zipD ds es) H0 where
  go := fun H i d l hd => by
    unfold zipD at hd
    rw [List.getElem?_map] at hd
    cases hp : (ds.zip es)[i]? with
    | none => rw [hp] at hd; cases hd
    | some p =>
      rw [hp] at hd; cases hd
      obtain ⟨q1, q2⟩ := List.getElem?_zip_eq_some.mp hp
      obtain ⟨v, hv, r⟩ := al.get q1
      obtain ⟨v2, hv2, r2⟩ := al2.get q2
      have hs : SqL K H a xs := .inl (.inl (l _ _ h))
      have hs2 : SqL K H c ys := .inl (.inl (l _ _ h2))
      refine ⟨⟨xs, ys, v, v2, hs, hs2, hv, hv2⟩, fun x H' hy => ?_⟩
      obtain ⟨T, x1, x2, rfl, hT, rfl, f1, f2⟩ := hy
      have e1 := f1 xs hs
      have e2 := f2 ys hs2
      rw [hv] at e1; rw [hv2] at e2; cases e1; cases e2
      exact .inr ⟨T, _, _, rfl, rfl, hT, rfl, .cons r (.cons r2 .nil)⟩
  stop := fun H i l hd => by
    have hs : SqL K H a xs := .inl (.inl (l _ _ h))
    have hs2 : SqL K H c ys := .inl (.inl (l _ _ h2))
    refine ⟨xs, ys, hs, hs2, ?_⟩
    have := List.getElem?_eq_none_iff.mp hd
    simp [zipD] at this
    rw [al.length, al2.length]; omega
theorem iterOk_enum {K : PySem.W.Frag} {H0 : Hp} {a : Addr} {xs : List V} {ds : List PyData} (h : H0 a = some (.lst xs)) (al : DnAll H0 xs ds) : IterOk (Ite K a) (enumD ds) H0 where
  go := fun H i d l hd => by
    unfold enumD at hd
    rw [List.getElem?_map, List.getElem?_zipIdx] at hd
    cases hp : ds[i]? with
    | none => rw [hp] at hd; cases hd
    | some p =>
      rw [hp] at hd
      simp at hd
      subst hd
      obtain ⟨v, hv, r⟩ := al.get hp
      have hs : SqL K H a xs := .inl (.inl (l _ _ h))
      refine ⟨⟨xs, v, hs, hv⟩, fun x H' hy => ?_⟩
      obtain ⟨T, x1, rfl, hT, rfl, f1⟩ := hy
      have e1 := f1 xs hs
      rw [hv] at e1; cases e1
      exact .inr ⟨T, _, _, rfl, rfl, hT, rfl, .cons (.int _) (.cons r .nil)⟩
  stop := fun H i l hd => by
    have hs : SqL K H a xs := .inl (.inl (l _ _ h))
    refine ⟨xs, hs, ?_⟩
    have := List.getElem?_eq_none_iff.mp hd
    simp [enumD] at this
    rw [al.length]; omega
section
variable {X : Cx} {a c e tg : Expr} {es : List Expr} {m m1 m2 : EM} {pos : Pos}
theorem mi_val (h : ME X e m) : MI X tg e (iVal m) := ⟨fun pins s0 σ H R I ⟨b, He, H0e, ρ, B, H0, s, q⟩ => by
  unfold iVal at q
  cases h1 : m ρ B with
  | bad => rw [h1] at q; exact q.elim
  | ok e1 B1 =>
    rw [h1, bind_ok] at q
    cases hd1 : e1.data with
    | none => rw [hd1] at q; exact q.elim
    | some d1 =>
      rw [hd1] at q
      cases d1 with
      | list ds =>
        refine (pi_list (tg := tg) h).run pins s0 σ H R I (rdE_at s h1 fun v H01 H1 g1 s1 r1 => ?_)
        obtain ⟨H02, g2, s2, D1⟩ := s.data g1 s1 r1 hd1
        obtain ⟨a, xs, rfl, ha, al⟩ := D1.lst_inv
        exact ⟨a, rfl, ⟨xs, .inl (.inl (s2.hr.le _ _ ha))⟩, q _ H02 H1 g2 s2 (iterOk_list ha al)⟩
      | tuple ds =>
        refine (pi_tup (tg := tg) h).run pins s0 σ H R I (rdE_at s h1 fun v H01 H1 g1 s1 r1 => ?_)
        obtain ⟨H02, g2, s2, D1⟩ := s.data g1 s1 r1 hd1
        obtain ⟨a, xs, rfl, ha, al⟩ := D1.tup_inv
        exact ⟨a, rfl, ⟨xs, .inl (.inl (s2.hr.le _ _ ha))⟩, q _ H02 H1 g2 s2 (iterOk_tup ha al)⟩
      | str x =>
        refine (pi_str (tg := tg) h).run pins s0 σ H R I (rdE_at s h1 fun v H01 H1 g1 s1 r1 => ?_)
        obtain ⟨H02, g2, s2, D1⟩ := s.data g1 s1 r1 hd1
        obtain rfl := D1.str_inv
        exact ⟨x, rfl, q _ H02 H1 g2 s2 iterOk_str⟩
      | _ => exact q.elim⟩
theorem PI.weak {t t' : TI} (h : PI X tg e t) (w : ∀ σ H Q, t' σ H Q → t σ H Q) : PI X tg e t' := ⟨fun pins s σ H Q I q => h.run pins s σ H Q I (w σ H Q q)⟩
theorem mi_range {p : Pos} {ms : AM} (hg : Gl X "range") (hm : X.mg "range" = none) (ha : MA X [a] ms) (hs : starEach [a] X.env = [(false, eval a X.env)] := by rfl) : MI X tg (.Call (.Name "range" p) [a] [] pos) (iRange ms) :=
  PI.weak (pi_range1 hg hm ha hs) fun σ H R ⟨b, He, H0e, ρ, B, H0, s, q⟩ => by
    unfold iRange at q
    cases h1 : ms ρ B with
    | bad => rw [h1] at q; exact q.elim
    | ok es1 B1 =>
      rw [h1, bind_ok] at q
      refine rdA_at s h1 fun vs H01 H1 g1 s1 r1 => ?_
      cases ht : one es1 with
      | none => rw [ht] at q; exact q.elim
      | some d1 =>
        rw [ht] at q
        obtain ⟨v1, rfl, r⟩ := r1.one ht
        cases d1 with
        | int j =>
          by_cases hj : -(2 ^ 62) ≤ j ∧ j < 2 ^ 62
          · simp only [if_pos hj] at q
            obtain rfl := r.int_inv
            refine ⟨j, rfl, hj.1, hj.2, q _ H01 H1 g1 s1 ?_⟩
            have := iterOk_range (H0 := H01) (lo := 0) (hi := j)
            rwa [Int.sub_zero] at this
          · simp only [if_neg hj] at q
        | _ => exact q.elim
theorem mi_range2 {p : Pos} {ms : AM} (hg : Gl X "range") (hm : X.mg "range" = none) (ha : MA X [a, c] ms) (hs : starEach [a, c] X.env = [(false, eval a X.env), (false, eval c X.env)] := by rfl) (hs2 : starEach [c] X.env = [(false, eval c X.env)] := by rfl) : MI X tg (.Call (.Name "range" p) [a, c] [] pos) (iRange2 ms) :=
  PI.weak (pi_range2 hg hm ha hs hs2) fun σ H R ⟨b, He, H0e, ρ, B, H0, s, q⟩ => by
    unfold iRange2 at q
    cases h1 : ms ρ B with
    | bad => rw [h1] at q; exact q.elim
    | ok es1 B1 =>
      rw [h1, bind_ok] at q
      refine rdA_at s h1 fun vs H01 H1 g1 s1 r1 => ?_
      cases ht : two es1 with
      | none => rw [ht] at q; exact q.elim
      | some p =>
        rw [ht] at q
        obtain ⟨v1, v2, rfl, r, r2⟩ := r1.two ht
        obtain ⟨d1, d2⟩ := p
        cases d1 with
        | int i =>
          cases d2 with
          | int j =>
            by_cases hj : -(2 ^ 62) ≤ i ∧ i < 2 ^ 62 ∧ -(2 ^ 62) ≤ j ∧ j < 2 ^ 62
            · simp only [if_pos hj] at q
              obtain rfl := r.int_inv
              obtain rfl := r2.int_inv
              exact ⟨i, j, rfl, hj, q _ H01 H1 g1 s1 iterOk_range⟩
            · simp only [if_neg hj] at q
          | _ => exact q.elim
        | _ => exact q.elim
/-! ### the for loop -/
def forL (f : PyData → Env → Option Env) (body : SM) : List PyData → SM
  | [], ρ, B => .ok (.nx ρ) B
  | d :: ds, ρ, B => match f d ρ with
    | none => .bad
    | some ρ1 => match body ρ1 B with
      | .ok (.nx ρ2) B2 => forL f body ds ρ2 B2
      | .ok (.ct ρ2) B2 => forL f body ds ρ2 B2
      | .ok (.bk ρ2) B2 => .ok (.nx ρ2) B2
      | o => o
def sFor (mi : IM) (f : PyData → Env → Option Env) (body : SM) : SM := fun ρ B => (mi ρ B).bind fun ds B1 => forL f body ds ρ B1
theorem for_rd {mi : IM} {is : List Nat} {f : PyData → Env → Option Env} {body : SM} {D : Ends} {σ : L2.St} {H : Hp} (h : rdS (sFor mi f body) D σ H) : tFor (rdI mi) (rdG is f) (rdS body) D σ H := by
  obtain ⟨b, He, H0e, ρ, B, H0, s, q⟩ := h
  unfold sFor at q
  cases h1 : mi ρ B with
  | bad => rw [h1] at q; exact q.elim
  | ok ds B1 =>
    rw [h1, bind_ok] at q
    refine ⟨b, He, H0e, ρ, B, H0, s, ?_⟩
    rw [h1]
    intro J H01 H1 g1 s1 io
    refine ⟨fun i m σ H => ∃ ρ B H0, SR b He H0e σ ρ B H0 H ∧ Le H01 H0 ∧ i + m = ds.length ∧ postS b He H0e H01 D (forL f body (ds.drop i) ρ B), ⟨ds.length, ρ, B1, H01, s1, Le.refl _, by omega, q.mono g1.l0⟩, fun i m σ H hW => ?_⟩
    obtain ⟨ρ, B, H0, s, l, hm, q⟩ := hW
    cases hd : ds[i]? with
    | none =>
      left
      have hle := List.getElem?_eq_none_iff.mp hd
      rw [List.drop_eq_nil_of_le hle] at q
      exact ⟨io.stop H i (l.trans s.hr.le) hd, q σ H0 H l s⟩
    | some d =>
      right
      obtain ⟨hi, hde⟩ := List.getElem?_eq_some_iff.mp hd
      have e1 : ds.drop i = d :: ds.drop (i + 1) := by rw [List.drop_eq_getElem_cons hi, hde]
      rw [e1] at q
      obtain ⟨go, yl⟩ := io.go H i d (l.trans s.hr.le) hd
      refine ⟨go, fun σ' H' => ∃ ρ B H0, SR b He H0e σ' ρ B H0 H' ∧ Le H01 H0 ∧ postS b He H0e H01 D (forL f body (ds.drop (i + 1)) ρ B), fun σ' H' hN => ?_, fun x H' hy => ?_⟩
      · obtain ⟨ρ', B', H0', s', l', q'⟩ := hN
        exact ⟨m - 1, by omega, ρ', B', H0', s', l', by omega, q'⟩
      · have n0 := yl x H' hy
        have n1 : NewRes H0 H x H' (.sh d) := by
          rcases n0 with ⟨z, r⟩ | ⟨p, vs, es, z1, z2, z3, z4, z5⟩
          · exact .inl ⟨z, Dn.mono l _ _ r⟩
          · exact .inr ⟨p, vs, es, z1, z2, z3, z4, DnAll.mono l _ _ z5⟩
        obtain ⟨H02, g2, s2, r2⟩ := n1.ok s
        simp only [forL] at q
        cases hf : f d ρ with
        | none => rw [hf] at q; exact q.elim
        | some ρ1 =>
          rw [hf] at q
          refine ⟨b, He, H0e, ρ, B, H02, d, ρ1, s2, r2, hf, fun σ1 s3 _ _ => ⟨b, He, H0e, ρ1, B, H02, s3, ?_⟩⟩
          cases hb : body ρ1 B with
          | bad => simp only [hb] at q; exact q.elim
          | ok fl B2 =>
            simp only [hb] at q
            have l2 : Le H01 H02 := l.trans g2.l0
            cases fl with
            | nx ρ2 => exact fun σ' H0' H' z s' => ⟨ρ2, B2, H0', s', l2.trans z, q⟩
            | ct ρ2 => exact fun σ' H0' H' z s' => ⟨ρ2, B2, H0', s', l2.trans z, q⟩
            | bk ρ2 => exact fun σ' H0' H' z s' => q σ' H0' H' (l2.trans z) s'
            | rt e => exact q
theorem ms_for {iter : Expr} {body : List Stmt} {mi : IM} {is : List Nat} {f : PyData → Env → Option Env} {mb : SM} (hp : PassesOwn (model X.prog X.w) X.A X.env X.xe) (hc : X.calm = true) (hi : MI X tg iter mi) (hg : MG X tg is f) (hb : MSs X body mb)
    (hs : ∀ x, foldedSetIterable iter X.env x = pure x := by intro _; rfl) : MS X (.For tg iter body [] pos) (sFor mi f mb) := PS.weak (ps_for hp hc hi hg hb hs) fun _ _ _ => for_rd
theorem mi_zip {p tpos : Pos} {elts : List Expr} {kk : Nat} {ms : AM} (hg : Gl X "zip") (hm : X.mg "zip" = none) (ha : MA X [a, c] ms)
    (hs : starEach [a, c] X.env = (false, eval a X.env) :: starEach [c] X.env := by rfl) (hpl : (backTo pos (starEach [c] X.env)).any (·.1) = false := by rfl) : MI X (.Tuple elts kk tpos) (.Call (.Name "zip" p) [a, c] [] pos) (iZipM ms) :=
  PI.weak (pi_zip hg hm ha hs hpl) fun σ H R ⟨b, He, H0e, ρ, B, H0, s, q⟩ => by
    unfold iZipM at q
    cases h1 : ms ρ B with
    | bad => rw [h1] at q; exact q.elim
    | ok es1 B1 =>
      rw [h1, bind_ok] at q
      refine rdA_at s h1 fun vs H01 H1 g1 s1 r1 => ?_
      cases ht : two es1 with
      | none => rw [ht] at q; exact q.elim
      | some p =>
        rw [ht] at q
        obtain ⟨v1, v2, rfl, r, r2⟩ := r1.two ht
        obtain ⟨d1, d2⟩ := p
        cases d1 with
        | list xs =>
          cases d2 with
          | list ys =>
            obtain ⟨a1, zs, rfl, ha, al⟩ := r.lst_inv
            obtain ⟨a2, ws, rfl, ha2, al2⟩ := r2.lst_inv
            exact ⟨a1, a2, zs, ws, rfl, .inl (.inl (s1.hr.le _ _ ha)), .inl (.inl (s1.hr.le _ _ ha2)), q _ H01 H1 g1 s1 (iterOk_zip ha al ha2 al2)⟩
          | _ => exact q.elim
        | _ => exact q.elim
theorem mi_enum {p tpos : Pos} {elts : List Expr} {kk : Nat} {ms : AM} (hg : Gl X "enumerate") (hm : X.mg "enumerate" = none) (ha : MA X [a] ms)
    (hs : starEach [a] X.env = [(false, eval a X.env)] := by rfl) : MI X (.Tuple elts kk tpos) (.Call (.Name "enumerate" p) [a] [] pos) (iEnumM ms) :=
  PI.weak (pi_enum hg hm ha hs) fun σ H R ⟨b, He, H0e, ρ, B, H0, s, q⟩ => by
    unfold iEnumM at q
    cases h1 : ms ρ B with
    | bad => rw [h1] at q; exact q.elim
    | ok es1 B1 =>
      rw [h1, bind_ok] at q
      refine rdA_at s h1 fun vs H01 H1 g1 s1 r1 => ?_
      cases ht : one es1 with
      | none => rw [ht] at q; exact q.elim
      | some d1 =>
        rw [ht] at q
        obtain ⟨v1, rfl, r⟩ := r1.one ht
        cases d1 with
        | list xs =>
          obtain ⟨a1, zs, rfl, ha, al⟩ := r.lst_inv
          exact ⟨a1, zs, rfl, .inl (.inl (s1.hr.le _ _ ha)), q _ H01 H1 g1 s1 (iterOk_enum ha al)⟩
        | _ => exact q.elim
end
end Mr
namespace Mr
open PySem PySem.Spec PyProof.Rows L2
variable [Wd]

def wipeE (ρ : Env) : List Nat → Env
  | [] => ρ
  | v :: vs => (wipeE ρ vs).set v none
theorem wipeE_length (ρ : Env) : ∀ vs : List Nat, (wipeE ρ vs).length = ρ.length
  | [] => rfl
  | v :: vs => by unfold wipeE; rw [List.length_set, wipeE_length ρ vs]
theorem wipeE_some {ρ : Env} {i : Nat} {x : EV} : ∀ {vs : List Nat}, (wipeE ρ vs)[i]? = some (some x) → ρ[i]? = some (some x) ∧ i ∉ vs
  | [], h => ⟨h, by simp⟩
  | v :: vs, h => by
    unfold wipeE at h
    by_cases hv : v = i
    · subst hv
      by_cases hl : v < (wipeE ρ vs).length
      · rw [List.getElem?_set_self hl] at h; cases h
      · rw [List.getElem?_eq_none (by simpa using hl)] at h; cases h
    · rw [List.getElem?_set_ne hv] at h
      obtain ⟨a, b⟩ := wipeE_some h
      exact ⟨a, by simp [Ne.symm hv, b]⟩
theorem wipe_get (σ : L2.St) (i : Nat) : ∀ vs : List Nat, (L2.wipe σ vs)[i]? = if i ∈ vs then (if i < σ.length then some none else none) else σ[i]?
  | [] => by simp [L2.wipe]
  | v :: vs => by
    unfold L2.wipe
    by_cases hv : v = i
    · subst hv
      by_cases hl : v < σ.length
      · rw [List.getElem?_set_self (by rw [L2.wipe_length]; exact hl)]; simp [hl]
      · rw [List.getElem?_eq_none (by rw [List.length_set, L2.wipe_length]; omega)]; simp [hl]
    · rw [List.getElem?_set_ne hv, wipe_get σ i vs]
      have : (i ∈ v :: vs) ↔ i ∈ vs := by simp [Ne.symm hv]
      simp only [this]
theorem wipe_same {σ σ' : L2.St} {vs is : List Nat} (hl : σ'.length = (L2.wipe σ vs).length) (hk : ∀ i, i ∉ is → σ'[i]? = (L2.wipe σ vs)[i]?) (hs : ∀ i ∈ is, i ∈ vs) : L2.wipe σ' vs = L2.wipe σ vs := by
  rw [L2.wipe_length] at hl
  apply List.ext_getElem?
  intro i
  rw [wipe_get, wipe_get]
  by_cases hi : i ∈ vs
  · simp [hi, hl]
  · simp only [hi, if_false]
    rw [hk i (fun z => hi (hs i z)), wipe_get]
    simp [hi]
def compL (f : PyData → Env → Option Env) (tt : TM) (me : EM) : List PyData → Env → List PyData → Bag → Out (List PyData)
  | [], _, acc, B => .ok acc B
  | d :: ds, ρ, acc, B => match f d ρ with
    | none => .bad
    | some ρ1 => (tt ρ1 B).bind fun k B1 => if k then (me ρ1 B1).bind fun e B2 => (match e.data with
        | some x => if acc.length < sizeLine then compL f tt me ds ρ (acc ++ [x]) B2 else .bad
        | none => .bad) else compL f tt me ds ρ acc B1
def eComp (vs : List Nat) (mi : IM) (f : PyData → Env → Option Env) (tt : TM) (me : EM) : EM := fun ρ B => (mi ρ B).bind fun ds B1 => (compL f tt me ds (wipeE ρ vs) [] B1).bind fun acc B2 => .ok (.ow (.list acc)) B2
section
variable {b : Addr × Addr} {He H0e H0 H H' H0' : Hp} {σ : L2.St} {ρ : Env} {B B' : Bag}
theorem SR.wipe (s : SR b He H0e σ ρ B H0 H) (vs : List Nat) : SR b He H0e (L2.wipe σ vs) (wipeE ρ vs) B H0 H := by
  refine ⟨s.hr, s.gr, by rw [L2.wipe_length, wipeE_length, s.len], fun i e he => ?_, fun i j d d' hij hi hj => ?_⟩
  · obtain ⟨h1, h2⟩ := wipeE_some he
    obtain ⟨v, hv, r⟩ := s.slot i e h1
    exact ⟨v, by rw [wipe_get]; simp [h2, hv], r⟩
  · obtain ⟨h1, h2⟩ := wipeE_some hi
    obtain ⟨h3, h4⟩ := wipeE_some hj
    rw [wipe_get, wipe_get]
    simp only [h2, h4, if_false]
    exact s.own i j d d' hij h1 h3
/-- an object that no slot owns, new since the entry, changes -/
theorem SR.updN (s : SR b He H0e σ ρ B H0 H) {p : Addr} {o : HO} (n0 : H0 p = none) (ne : He p = none) (nb : p ≠ b.1) (no : ∀ (i : Nat) d q, ρ[i]? = some (some (.ow d)) → σ[i]? = some (some (.ref q)) → q ≠ p) : SR b He H0e σ ρ B H0 (upd H p o) := by
  refine ⟨⟨fun a u e => ?_, s.hr.fb, ⟨?_, s.hr.bag.2⟩, s.hr.ok⟩, ⟨fun a u na e => ?_, s.gr.l0, s.gr.n0, s.gr.fb⟩, s.len, fun i e he => ?_, s.own⟩
  · rw [upd_ne (ne_of_none e n0)]; exact s.hr.le a u e
  · rw [upd_ne nb.symm]; exact s.hr.bag.1
  · rw [upd_ne (ne_of_none e ne)]; exact s.gr.kp a u na e
  · obtain ⟨v, hv, r⟩ := s.slot i e he
    refine ⟨v, hv, ?_⟩
    cases e with
    | sh d => exact r
    | bg => exact r
    | ow d =>
      obtain ⟨q, vs, ds, rfl, h1, h2, h3, h4, h5, h6⟩ := r
      exact ⟨q, vs, ds, rfl, h1, h2, h3, h4, by rw [upd_ne (no i d q he hv)]; exact h5, h6⟩
end
theorem comp_rd {vs is : List Nat} {mi : IM} {f : PyData → Env → Option Env} {tt : TM} {me : EM} (hs : ∀ i ∈ is, i ∈ vs) {σ : L2.St} {H : Hp} {Q : VK} (h : rdE (eComp vs mi f tt me) σ H Q) : tLc (rdI mi) (rdG is f) (rdT tt) (rdE me) vs σ H Q := by
  obtain ⟨b, He, H0e, ρ, B, H0, s, q⟩ := h
  unfold eComp at q
  cases h1 : mi ρ B with
  | bad => rw [h1] at q; exact q.elim
  | ok ds B1 =>
    rw [h1, bind_ok] at q
    refine ⟨b, He, H0e, ρ, B, H0, s, ?_⟩
    rw [h1]
    intro J H01 H1 g1 s1 io D hD
    have nD : D ≠ b.1 := s1.notb hD
    have hDe : He D = none := s.gr.kp.none nD (g1.kp.none nD hD)
    have n01 : H01 D = none := s1.hr.le.none hD
    have ownD : ∀ (i : Nat) d q, (wipeE ρ vs)[i]? = some (some (.ow d)) → (L2.wipe σ vs)[i]? = some (some (.ref q)) → q ≠ D := fun i d q hi hq => by
      obtain ⟨⟨o, ho⟩, _⟩ := (s1.wipe vs).ownH hi hq
      exact ne_of_none ho hD
    obtain ⟨gD, sD⟩ := (s1.wipe vs).fresh (o := .lst []) hD
    refine ⟨fun i m Hc => ∃ B H0c acc as, SR b He H0e (L2.wipe σ vs) (wipeE ρ vs) B H0c Hc ∧ Gr b H1 H01 Hc H0c ∧ i + m = ds.length ∧ Hc D = some (.lst as) ∧ H0c D = none ∧ DnAll H0c as acc ∧
        (match (compL f tt me (ds.drop i) (wipeE ρ vs) acc B).bind fun acc B2 => Out.ok (EV.ow (.list acc)) B2 with
          | .ok e B' => ∀ v H0' H', Gr b H H0 H' H0' → SR b He H0e σ ρ B' H0' H' → VR b H H0' H' v e → Q v H'
          | .bad => False), ⟨ds.length, B1, H01, [], [], sD, gD, by omega, upd_same, n01, .nil, q⟩, fun i m Hc hW => ?_⟩
    obtain ⟨B, H0c, acc, as, sW, gW, hm, hDc, h0D, al, q⟩ := hW
    cases hd : ds[i]? with
    | none =>
      left
      have hle := List.getElem?_eq_none_iff.mp hd
      rw [List.drop_eq_nil_of_le hle] at q
      exact ⟨io.stop Hc i (gW.l0.trans sW.hr.le) hd, q _ H0c Hc (g1.trans gW) (s1.more gW sW.hr) ⟨D, _, (), rfl, nD, g1.kp.none nD hD, h0D, trivial, hDc, .lst al⟩⟩
    | some d =>
      right
      obtain ⟨hi, hde⟩ := List.getElem?_eq_some_iff.mp hd
      have e1 : ds.drop i = d :: ds.drop (i + 1) := by rw [List.drop_eq_getElem_cons hi, hde]
      rw [e1] at q
      obtain ⟨go, yl⟩ := io.go Hc i d (gW.l0.trans sW.hr.le) hd
      refine ⟨go, fun Hc => ∃ B H0c acc as, SR b He H0e (L2.wipe σ vs) (wipeE ρ vs) B H0c Hc ∧ Gr b H1 H01 Hc H0c ∧ Hc D = some (.lst as) ∧ H0c D = none ∧ DnAll H0c as acc ∧
        (match (compL f tt me (ds.drop (i + 1)) (wipeE ρ vs) acc B).bind fun acc B2 => Out.ok (EV.ow (.list acc)) B2 with
          | .ok e B' => ∀ v H0' H', Gr b H H0 H' H0' → SR b He H0e σ ρ B' H0' H' → VR b H H0' H' v e → Q v H'
          | .bad => False), fun H' hN => ?_, fun x H' hy => ?_⟩
      · obtain ⟨B', H0', acc', as', a1, a2, a3, a4, a5, a6⟩ := hN
        exact ⟨m - 1, by omega, B', H0', acc', as', a1, a2, by omega, a3, a4, a5, a6⟩
      · have n1 : NewRes H0c Hc x H' (.sh d) := by
          rcases yl x H' hy with ⟨z, r⟩ | ⟨p, vs, es, z1, z2, z3, z4, z5⟩
          · exact .inl ⟨z, Dn.mono gW.l0 _ _ r⟩
          · exact .inr ⟨p, vs, es, z1, z2, z3, z4, DnAll.mono gW.l0 _ _ z5⟩
        obtain ⟨H02, g2, s2, r2⟩ := n1.ok sW
        simp only [compL] at q
        cases hf : f d (wipeE ρ vs) with
        | none => rw [hf] at q; exact q.elim
        | some ρ1 =>
          rw [hf] at q
          refine ⟨b, He, H0e, wipeE ρ vs, B, H02, d, ρ1, s2, r2, hf, fun σ1 s3 l3 k3 => ⟨wipe_same l3 k3 hs, ?_⟩⟩
          cases ht : tt ρ1 B with
          | bad => simp only [ht] at q; exact q.elim
          | ok k B2 =>
            simp only [ht, bind_ok] at q
            refine rdT_at s3 ht fun H03 H3 g3 s4 => ?_
            cases k with
            | false =>
              exact ⟨B2, H03, acc, as, sW.more (g2.trans g3) s4.hr, gW.trans (g2.trans g3), (g2.trans g3).kp _ _ nD hDc, (g2.trans g3).n0 _ _ hDc h0D, DnAll.mono (g2.trans g3).l0 _ _ al, q⟩
            | true =>
              cases he : me ρ1 B2 with
              | bad => simp [he] at q
              | ok e3 B3 =>
                simp only [he, bind_ok, if_true] at q
                refine rdE_at s4 he fun y H04 H4 g4 s5 r5 => ?_
                cases hx : e3.data with
                | none => simp [hx] at q
                | some x3 =>
                  simp only [hx] at q
                  obtain ⟨H05, g5, s6, D5⟩ := s4.data g4 s5 r5 hx
                  by_cases hl : acc.length < sizeLine
                  · simp only [if_pos hl] at q
                    have gg := (g2.trans g3).trans g5
                    have hd4 := gg.kp _ _ nD hDc
                    have h05 := gg.n0 _ _ hDc h0D
                    have g6 := gW.trans gg
                    exact ⟨as, hd4, by rw [al.length]; exact hl, B3, H05, acc ++ [x3], as ++ [y], (sW.more gg s6.hr).updN h05 hDe nD ownD, ⟨fun a o na e => by rw [upd_ne (ne_of_none e hD)]; exact g6.kp a o na e, g6.l0, g6.n0, g6.fb⟩, upd_same, h05, (DnAll.mono gg.l0 _ _ al).append (.cons D5 .nil), q⟩
                  · simp [hl] at q
/-! ### list comprehensions -/
abbrev MTs (X : Cx) (ifs : List Expr) (m : TM) : Prop := PTs X ifs (rdT m)
def tYesM : TM := fun _ B => .ok true B
section
variable {X : Cx} {a c e tg iter elt : Expr} {ifs : List Expr} {es : List Expr} {m m1 m2 : EM} {pos : Pos}
theorem mts_nil : MTs X [] tYesM := ⟨fun pins s0 σ H Q I ⟨b, He, H0e, ρ, B, H0, s, q⟩ => pts_nil.run pins s0 σ H Q I (q H0 H (Gr.refl s.hr.fb) s)⟩
theorem mts_one {t : TM} (h : MT X c t) : MTs X [c] t := pts_one h
theorem me_lc {scope : Scope} {own : List (Str × Nat)} {is : List Nat} {mi : IM} {f : PyData → Env → Option Env} {tt : TM} {me : EM} (hc : X.calm = true) (hN : X.N.Nodup) (hi : MI X tg iter mi) (ok : BlkOk X.N X.env.scope scope own)
    (hs : ∀ i ∈ is, i ∈ own.map (·.2))
    (hg : ∀ (s : Shared) (H : Hp) (C : Addr) (cl : List (Str × Addr)) (fp : List Addr), MG (X.blk s H scope (compEnvC scope cl C X.env) fp) tg is f) (ht : ∀ (s : Shared) (H : Hp) (C : Addr) (cl : List (Str × Addr)) (fp : List Addr), MTs (X.blk s H scope (compEnvC scope cl C X.env) fp) ifs tt)
    (he : ∀ (s : Shared) (H : Hp) (C : Addr) (cl : List (Str × Addr)) (fp : List Addr), ME (X.blk s H scope (compEnvC scope cl C X.env) fp) elt me) (hf : ∀ x, foldedSetIterable iter X.env x = pure x := by intro _; rfl) :
    ME X (.ListComp elt [⟨tg, iter, ifs, 0⟩] scope pos) (eComp (own.map (·.2)) mi f tt me) := PE.weak (pe_lc hc hN hi ok hg ht he hf) fun _ _ _ => comp_rd hs
theorem ms_setLc {i : Nat} {y : Str} {py spos : Pos} {scope : Scope} {own : List (Str × Nat)} {is : List Nat} {mi : IM} {f : PyData → Env → Option Env} {tt : TM} {me : EM} (hc : X.calm = true) (hN : X.N.Nodup) (hy : X.N[i]? = some y) (hyl : X.env.scope.names.lookup y = some .local)
    (hsw : swapsWith (.ListComp elt [⟨tg, iter, ifs, 0⟩] scope pos) (some (.Name y py)) spos.line X.env = pure true) (hi : MI X tg iter mi) (ok : BlkOk X.N X.env.scope scope own)
    (hs : ∀ i ∈ is, i ∈ own.map (·.2))
    (hg : ∀ (s : Shared) (H : Hp) (C : Addr) (cl : List (Str × Addr)) (fp : List Addr), MG (X.blk s H scope (compEnvC scope cl C X.env) fp) tg is f) (ht : ∀ (s : Shared) (H : Hp) (C : Addr) (cl : List (Str × Addr)) (fp : List Addr), MTs (X.blk s H scope (compEnvC scope cl C X.env) fp) ifs tt)
    (he : ∀ (s : Shared) (H : Hp) (C : Addr) (cl : List (Str × Addr)) (fp : List Addr), ME (X.blk s H scope (compEnvC scope cl C X.env) fp) elt me) (hf : ∀ x, foldedSetIterable iter X.env x = pure x := by intro _; rfl) :
    MS X (.Assign [.Name y py] (.ListComp elt [⟨tg, iter, ifs, 0⟩] scope pos) spos) (sSet i (eComp (own.map (·.2)) mi f tt me)) := PS.weak (ps_setLc hc hN hy hyl hsw hi ok hg ht he hf) fun _ _ _ => set_rd fun _ _ _ => comp_rd hs
end
end Mr
namespace Mr
open PySem PySem.Spec PyProof.Rows L2
variable [Wd]
section
variable {b : Addr × Addr} {He H0e H0 H H' H0' : Hp} {σ : L2.St} {ρ : Env} {B B' : Bag}
/-- an owned list is another list now -/
theorem SR.updW (s : SR b He H0e σ ρ B H0 H) {i : Nat} {d d' : PyData} {p : Addr} {o' : HO} (hi : ρ[i]? = some (some (.ow d))) (hp : σ[i]? = some (some (.ref p))) (al : OwnD H0 p o' d') :
    SR b He H0e σ (ρ.set i (some (.ow d'))) B H0 (upd H p o') := by
  obtain ⟨v, hv, p', vs, ds, rfl, nb, hpe, h0, _, hH, _⟩ := s.slot i _ hi
  rw [hp] at hv; cases hv
  have hil : i < ρ.length := (List.getElem?_eq_some_iff.mp hi).1
  refine ⟨⟨fun a u e => ?_, s.hr.fb, ⟨?_, s.hr.bag.2⟩, s.hr.ok⟩, ⟨fun a u na e => ?_, s.gr.l0, s.gr.n0, s.gr.fb⟩, by simp [s.len], fun j e he => ?_, fun j k d1 d2 hjk hj hk => ?_⟩
  · rw [upd_ne (ne_of_none e h0)]; exact s.hr.le a u e
  · rw [upd_ne nb.symm]; exact s.hr.bag.1
  · rw [upd_ne (ne_of_none e hpe)]; exact s.gr.kp a u na e
  · by_cases hj : i = j
    · subst hj
      rw [List.getElem?_set_self hil] at he
      cases he
      exact ⟨_, hp, p, o', (), rfl, nb, hpe, h0, trivial, upd_same, al⟩
    · rw [List.getElem?_set_ne hj] at he
      obtain ⟨v, hv, r⟩ := s.slot j e he
      refine ⟨v, hv, ?_⟩
      cases e with
      | sh d => exact r
      | bg => exact r
      | ow d1 =>
        obtain ⟨q, ws, es, rfl, h1, h2, h3, h4, h5, h6⟩ := r
        have : q ≠ p := fun z => s.own i j d d1 hj hi he (by rw [hp, hv, z])
        exact ⟨q, ws, es, rfl, h1, h2, h3, h4, by rw [upd_ne this]; exact h5, h6⟩
  · have a1 : ∃ d3, ρ[j]? = some (some (.ow d3)) := by
      by_cases hj' : i = j
      · subst hj'; exact ⟨_, hi⟩
      · rw [List.getElem?_set_ne hj'] at hj; exact ⟨_, hj⟩
    have a2 : ∃ d3, ρ[k]? = some (some (.ow d3)) := by
      by_cases hk' : i = k
      · subst hk'; exact ⟨_, hi⟩
      · rw [List.getElem?_set_ne hk'] at hk; exact ⟨_, hk⟩
    obtain ⟨d3, a1⟩ := a1
    obtain ⟨d4, a2⟩ := a2
    exact s.own j k d3 d4 hjk a1 a2
theorem SR.updO (s : SR b He H0e σ ρ B H0 H) {i : Nat} {d : PyData} {p : Addr} {vs' : List V} {ds' : List PyData} (hi : ρ[i]? = some (some (.ow d))) (hp : σ[i]? = some (some (.ref p))) (al : DnAll H0 vs' ds') :
    SR b He H0e σ (ρ.set i (some (.ow (.list ds')))) B H0 (upd H p (.lst vs')) := s.updW hi hp (.lst al)
/-- an owned list becomes shared -/
theorem SR.frzS (s : SR b He H0e σ ρ B H0 H) {i : Nat} {d : PyData} (hi : ρ[i]? = some (some (.ow d))) : ∃ H0', Le H0 H0' ∧ SR b He H0e σ (ρ.set i (some (.sh d))) B H0' H := by
  obtain ⟨v, hv, p, vs, ds, rfl, nb, hpe, h0, _, hH, al⟩ := s.slot i _ hi
  have hil : i < ρ.length := (List.getElem?_eq_some_iff.mp hi).1
  refine ⟨upd H0 p vs, Le.new h0, ⟨⟨fun a u e => ?_, ?_, ⟨s.hr.bag.1, Le.new h0 _ _ s.hr.bag.2⟩, s.hr.ok⟩, ⟨s.gr.kp, s.gr.l0.trans (Le.new h0), fun a u e n => ?_, ?_⟩, by simp [s.len], fun j e he => ?_, fun j k d1 d2 hjk hj hk => ?_⟩⟩
  · by_cases ha : a = p
    · subst ha; rw [upd_same] at e; cases e; exact hH
    · rw [upd_ne ha] at e; exact s.hr.le a u e
  · rw [upd_ne nb.symm]; exact s.hr.fb
  · rw [upd_ne (ne_of_none e hpe)]; exact s.gr.n0 a u e n
  · rw [upd_ne nb.symm]; exact s.hr.fb
  · by_cases hj : i = j
    · subst hj
      rw [List.getElem?_set_self hil] at he
      cases he
      exact ⟨_, hv, al.dn h0⟩
    · rw [List.getElem?_set_ne hj] at he
      obtain ⟨v, hv', r⟩ := s.slot j e he
      refine ⟨v, hv', ?_⟩
      cases e with
      | sh d => exact Dn.mono (Le.new h0) _ _ r
      | bg => exact r
      | ow d1 =>
        obtain ⟨q, ws, es, rfl, h1, h2, h3, h4, h5, h6⟩ := r
        have : q ≠ p := fun z => s.own i j _ d1 hj hi he (by rw [hv, hv', z])
        exact ⟨q, ws, es, rfl, h1, h2, by rw [upd_ne this]; exact h3, h4, h5, h6.mono (Le.new h0)⟩
  · have n1 : i ≠ j := fun z => by subst z; rw [List.getElem?_set_self hil] at hj; cases hj
    have n2 : i ≠ k := fun z => by subst z; rw [List.getElem?_set_self hil] at hk; cases hk
    rw [List.getElem?_set_ne n1] at hj
    rw [List.getElem?_set_ne n2] at hk
    exact s.own j k d1 d2 hjk hj hk
end
def frz1 (ρ : Env) (i : Nat) : Env := match ρ[i]? with
  | some (some (.ow d)) => ρ.set i (some (.sh d))
  | _ => ρ
def frzE (ρ : Env) : List Nat → Env
  | [] => ρ
  | i :: is => frzE (frz1 ρ i) is
theorem SR.frz1 {b : Addr × Addr} {He H0e H0 H : Hp} {σ : L2.St} {ρ : Env} {B : Bag} (s : SR b He H0e σ ρ B H0 H) (i : Nat) : ∃ H0', Le H0 H0' ∧ SR b He H0e σ (Mr.frz1 ρ i) B H0' H := by
  unfold Mr.frz1
  split
  · rename_i d h; exact s.frzS h
  · exact ⟨H0, Le.refl _, s⟩
theorem SR.frzE {b : Addr × Addr} {He H0e H : Hp} {σ : L2.St} {B : Bag} : ∀ (is : List Nat) {ρ : Env} {H0 : Hp}, SR b He H0e σ ρ B H0 H → ∃ H0', Le H0 H0' ∧ SR b He H0e σ (Mr.frzE ρ is) B H0' H
  | [], ρ, H0, s => ⟨H0, Le.refl _, s⟩
  | i :: is, ρ, H0, s => by
    obtain ⟨H1, l1, s1⟩ := s.frz1 i
    obtain ⟨H2, l2, s2⟩ := SR.frzE is s1
    exact ⟨H2, l1.trans l2, s2⟩
/-- the slots are shared from here on -/
def sFrz (is : List Nat) (m : SM) : SM := fun ρ B => m (frzE ρ is) B
def scalD : PyData → Bool
  | .none => true
  | .bool _ => true
  | .int _ => true
  | .str _ => true
  | _ => false
/-- the slots are read as shared for an expression that hands back a scalar -/
def eScal (is : List Nat) (m : EM) : EM := fun ρ B => (m (frzE ρ is) B).bind fun e B1 => match e with
  | .sh d => if scalD d then .ok (.sh d) B1 else .bad
  | _ => .bad
def tScal (is : List Nat) (m : TM) : TM := fun ρ B => m (frzE ρ is) B
def sApp (i : Nat) (m : EM) : SM := fun ρ B => (m ρ B).bind fun e B1 => match e.data, ρ[i]? with
  | some d, some (some (.ow (.list ds))) => if ds.length < sizeLine then .ok (.nx (ρ.set i (some (.ow (.list (ds ++ [d])))))) B1 else .bad
  | _, _ => .bad
section
variable {X : Cx} {a c e tg : Expr} {es : List Expr} {m m1 m2 : EM} {pos : Pos}
theorem ms_frz {st : Stmt} {m : SM} (is : List Nat) (h : MS X st m) : MS X st (sFrz is m) := PS.weak h fun D σ H ⟨b, He, H0e, ρ, B, H0, s, q⟩ => by
  obtain ⟨H0', l, s'⟩ := s.frzE is
  exact ⟨b, He, H0e, _, B, H0', s', q.mono l⟩
theorem Dn.scal {H0 H0' : Hp} {v : V} {d : PyData} (r : Dn H0 v d) (h : scalD d = true) : Dn H0' v d := by
  cases d with
  | none => cases r; exact .non
  | bool b => cases r; exact .bl b
  | int b => cases r; exact .int b
  | str b => cases r; exact .str b
  | _ => cases h
theorem SR.scal {b : Addr × Addr} {He H0e H0 H H0f H' H0' : Hp} {σ : L2.St} {ρ ρ' : Env} {B B' : Bag} (s : SR b He H0e σ ρ B H0 H) (lf : Le H0 H0f) (g : Gr b H H0f H' H0') (hr : HR b B' H0' H') (hc : B'.cells = B.cells) : Gr b H H0 H' H0 ∧ SR b He H0e σ ρ B' H0 H' := by
  have g' : Gr b H H0 H' H0 := ⟨g.kp, Le.refl _, fun _ _ _ n => n, s.hr.fb⟩
  refine ⟨g', s.more g' ⟨(lf.trans g.l0).trans hr.le, s.hr.fb, ⟨hr.bag.1, ?_⟩, hr.ok⟩⟩
  rw [hc]; exact s.hr.bag.2
theorem SR.cells {b : Addr × Addr} {He H0e H0 H H0f H' H0' : Hp} {σ : L2.St} {ρ : Env} {B B' : Bag} (s : SR b He H0e σ ρ B H0 H) (lf : Le H0 H0') (hr : HR b B' H0' H') : B'.cells = B.cells := by
  have h1 := lf _ _ s.hr.bag.2
  rw [hr.bag.2] at h1
  have h2 := HO.lst.inj (Option.some.inj h1)
  exact (List.map_inj_right (fun _ _ z => V.int.inj z)).mp h2
theorem mt_scal {t : TM} (is : List Nat) (h : MT X a t) : MT X a (tScal is t) := PT.weak h fun σ H Q ⟨b, He, H0e, ρ, B, H0, s, q⟩ => by
  obtain ⟨H0f, lf, sf⟩ := s.frzE is
  refine ⟨b, He, H0e, _, B, H0f, sf, ?_⟩
  unfold tScal at q
  cases h1 : t (frzE ρ is) B with
  | bad => rw [h1] at q; exact q.elim
  | ok k B1 =>
    rw [h1] at q
    intro H0' H' g' s'
    obtain ⟨g2, s2⟩ := s.scal (ρ' := ρ) lf g' s'.hr (s.cells (H0f := H0f) (lf.trans g'.l0) s'.hr)
    exact q H0 H' g2 s2
theorem me_scal (is : List Nat) (h : ME X a m) : ME X a (eScal is m) := PE.weak h fun σ H Q ⟨b, He, H0e, ρ, B, H0, s, q⟩ => by
  obtain ⟨H0f, lf, sf⟩ := s.frzE is
  refine ⟨b, He, H0e, _, B, H0f, sf, ?_⟩
  unfold eScal at q
  cases h1 : m (frzE ρ is) B with
  | bad => rw [h1] at q; exact q.elim
  | ok e B1 =>
    rw [h1, bind_ok] at q
    intro v H0' H' g' s' r
    obtain ⟨g2, s2⟩ := s.scal (ρ' := ρ) lf g' s'.hr (s.cells (H0f := H0f) (lf.trans g'.l0) s'.hr)
    cases e with
    | ow d => exact q.elim
    | bg => exact q.elim
    | sh d =>
      by_cases hd : scalD d = true
      · simp only [if_pos hd] at q
        exact q v H0 H' g2 s2 (Dn.scal r hd)
      · simp only [hd] at q; exact q.elim
theorem ms_app {i : Nat} {x : Str} {xp apos cpos : Pos} (hx : PE X (.Name x xp) (tVar i)) (he : ME X e m)
    (hbase : attributeBase (.Name x xp) "append" X.env (eval (.Name x xp) X.env) = eval (.Name x xp) X.env := by rfl)
    (hfew : ((backTo cpos (starEach [e] X.env)).all (fun x => !x.1) && (backToKw cpos (keywordEach [] X.env)).all (fun x => x.1.isSome)
      && decide ([e].length + ([] : List Keyword).length + (if ([] : List Keyword).isEmpty then 0 else 1) < 30)) = true := by rfl)
    (hline : (apos.endLine == cpos.line) = true := by rfl) (hs : starEach [e] X.env = (false, eval e X.env) :: starEach [] X.env := by rfl) (hplain : (backTo cpos (starEach [] X.env)).any (·.1) = false := by rfl)
    (hsw : swapsWith (.Call (.Attribute (.Name x xp) "append" apos) [e] [] cpos) none pos.line X.env = pure false := by rfl) :
    MS X (.Expr (.Call (.Attribute (.Name x xp) "append" apos) [e] [] cpos) pos) (sApp i m) :=
  PS.weak (ps_expr (pe_bm PySem.F.plainAttrs_list PySem.F.slot_list_append PySem.F.type_list_append mt_append hx (pa_cons he pa_nil hs) hbase hfew hline hs hplain) hsw) fun D σ H ⟨b, He, H0e, ρ, B, H0, s, q⟩ => by
    unfold sApp at q
    cases h1 : m ρ B with
    | bad => rw [h1] at q; exact q.elim
    | ok e1 B1 =>
      rw [h1, bind_ok] at q
      cases hd : e1.data with
      | none => simp only [hd] at q; exact q.elim
      | some d =>
        simp only [hd] at q
        split at q
        · rename_i d' ds hd' hi
          cases hd'
          obtain ⟨v, hv, p, vs, ds', rfl, nb, hpe, h0, e2, hH, al⟩ := s.slotL hi
          cases e2
          by_cases hl : ds.length < sizeLine
          · simp only [if_pos hl] at q
            refine ⟨_, hv, .inl ⟨rfl, vs, .inl (.inl hH)⟩, rdE_at s h1 fun y H01 H1 g1 s1 r1 => ?_⟩
            obtain ⟨H02, g2, s2, D1⟩ := s.data g1 s1 r1 hd
            obtain ⟨v', hv', p', vs', ds'', e3, _, _, _, e4, hH', al'⟩ := s2.slotL hi
            rw [hv] at hv'; cases hv'; cases e3; cases e4
            exact ⟨p, vs', y, rfl, rfl, hH', by rw [al'.length]; exact hl, q σ H02 _ g2.l0 (s2.updO hi hv (al'.append (.cons D1 .nil)))⟩
          · simp only [if_neg hl] at q; exact q.elim
        · exact q.elim
end
end Mr
namespace Mr
open PySem PySem.Spec PyProof.Rows L2
variable [Wd]

/-! ### data are read off the heap -/
section
variable {X : Cx} {pins : List (Addr × Obj)} {σ : L2.St} {H H0 : Hp} {s : Shared}
theorem keys_read {P : Program} {w : World} {h : Heap} : ∀ (kvs : List (Key × V)) (ds : List (PyData × PyData)) (es : List DictEntry) (vs : List (Key × Value)), DnKv H kvs ds → KV kvs vs → Pairs (mixKind P w) es vs → ReadsAll h (es.map (·.key)) (ds.map (·.1)) []
  | [], _, _, _, h1, h2, h3 => by cases h1; cases h2; cases h3; exact .nil
  | _ :: kvs, _, _, _, h1, h2, h3 => by
    cases h1 with
    | cons a r =>
      cases h2 with
      | cons b r2 =>
        cases h3 with
        | cons c d r3 =>
          rename_i k v dd ds vv ws e es
          have e1 := b.1
          have c' : keyIs vv.1 e.key = true := c
          rw [← e1] at c'
          have := keys_read (P := P) (w := w) (h := h) kvs ds es ws r r2 r3
          refine ReadsAll.cons (as := []) (bs := []) ?_ this
          rcases keyIs_shape c' with ⟨i, t, e2, e3⟩ | ⟨x, t, e2, e3⟩
          · have e2' : k = Sum.inl i := e2
            subst e2'; show Reads h e.key _ _; rw [e3]; exact .int i t
          · have e2' : k = Sum.inr x := e2
            subst e2'; show Reads h e.key _ _; rw [e3]; exact .str x t
mutual
theorem Dn.reads (I : Inv X pins σ H s) : ∀ (d : PyData) (v : V) (u : Value), Dn H v d → RelV v u → ∃ as, Reads s.heap u d as ∧ ∀ a ∈ as, ∃ o, H a = some o
  | .none, _, _, h, r => by
    cases h; cases r; exact ⟨_, Reads.none, by simp⟩
  | .bool b, _, _, h, r => by
    cases h; cases r; exact ⟨_, Reads.bool b, by simp⟩
  | .int i, _, _, h, r => by
    cases h; obtain ⟨t, rfl⟩ := r; exact ⟨_, Reads.int i t, by simp⟩
  | .str x, _, _, h, r => by
    cases h; obtain ⟨t, rfl⟩ := r; exact ⟨_, Reads.str x t, by simp⟩
  | .list ds, _, _, h, r => by
    cases h with
    | lst hs ha =>
      cases r
      obtain ⟨hz, its, n, rv, ho⟩ := I.hok _ _ hs
      obtain ⟨as, hr, hn⟩ := DnAll.reads I ds _ its ha rv
      refine ⟨_, Reads.list ho rfl rfl (by simpa using hr), fun a z => ?_⟩
      rcases List.mem_cons.mp z with z | z
      · rw [z]; exact ⟨_, hs⟩
      · exact hn a z
  | .tuple ds, _, _, h, r => by
    cases h with
    | tup hs ha =>
      cases r
      obtain ⟨hz, its, rv, o, ho, hc, n, hd⟩ := I.hok _ _ hs
      obtain ⟨as, hr, hn⟩ := DnAll.reads I ds _ its ha rv
      exact ⟨_, Reads.tuple ho hc hd (by simpa using hr), hn⟩
  | .dict ds, _, _, h, r => by
    cases h with
    | dct hn0 hs ha =>
      cases r
      obtain ⟨hz, hsys, vs, hkv, o, es, ep, ho, hex, hd, hk, hp, hnd⟩ := I.hok _ _ hs
      obtain ⟨as, hr, hn⟩ := DnKv.reads I ds _ es.toList vs ha hkv hp
      refine ⟨_, Reads.dict ho hex.1 hd (keys_read _ _ _ _ ha hkv hp) hr, fun a z => ?_⟩
      simp only [List.mem_append, List.mem_cons, List.not_mem_nil, or_false] at z
      rcases z with z | z
      · rw [z]; exact ⟨_, hs⟩
      · exact hn a z
    | dcn hs ha =>
      cases r
      obtain ⟨⟨hz, hsys, hnd, es, ep, ys, ho, hex, hd, rv, he⟩, _⟩ := I.hok _ _ hs
      obtain ⟨as, hr, hn⟩ := DnEn.readsK I ds _ ys ha rv
      obtain ⟨bs, hr', hn'⟩ := DnEn.readsV I ds _ ys ha rv
      refine ⟨_, Reads.dict ho hex.1 hd (show ReadsAll s.heap _ _ as from ?_) (show ReadsAll s.heap _ _ bs from ?_), fun a z => ?_⟩
      · rw [he, List.map_map]; exact hr
      · rw [he, List.map_map]; exact hr'
      · simp only [List.mem_append, List.mem_cons] at z
        rcases z with (z | z) | z
        · rw [z]; exact ⟨_, hs⟩
        · exact hn a z
        · exact hn' a z
theorem DnEn.readsK (I : Inv X pins σ H s) : ∀ (ds : List (PyData × PyData)) (xs : List (NestedKey × Addr × V)) (ys : List (NestedKey × Addr × Value)), DnEn H xs ds → XY xs ys → ∃ as, ReadsAll s.heap (ys.map fun y => Value.ref y.2.1) (ds.map (·.1)) as ∧ ∀ a ∈ as, ∃ o, H a = some o
  | [], _, _, h, r => by cases h; cases r; exact ⟨_, ReadsAll.nil, by simp⟩
  | (dk, d) :: ds, _, _, h, r => by
    cases h with
    | cons h1 hk hd h2 h3 =>
      cases r with
      | cons r1 r2 =>
        obtain ⟨as, q1, n1⟩ := Dn.reads I dk _ _ h1 rfl
        obtain ⟨bs, q2, n2⟩ := DnEn.readsK I ds _ _ h3 r2
        have e := r1.2.1
        dsimp only at e
        rw [e] at q1
        exact ⟨_, ReadsAll.cons q1 q2, fun a z => (List.mem_append.mp z).elim (n1 a) (n2 a)⟩
theorem DnEn.readsV (I : Inv X pins σ H s) : ∀ (ds : List (PyData × PyData)) (xs : List (NestedKey × Addr × V)) (ys : List (NestedKey × Addr × Value)), DnEn H xs ds → XY xs ys → ∃ as, ReadsAll s.heap (ys.map fun y => y.2.2) (ds.map (·.2)) as ∧ ∀ a ∈ as, ∃ o, H a = some o
  | [], _, _, h, r => by cases h; cases r; exact ⟨_, ReadsAll.nil, by simp⟩
  | (dk, d) :: ds, _, _, h, r => by
    cases h with
    | cons h1 hk hd h2 h3 =>
      cases r with
      | cons r1 r2 =>
        obtain ⟨as, q1, n1⟩ := Dn.reads I d _ _ h2 r1.2.2
        obtain ⟨bs, q2, n2⟩ := DnEn.readsV I ds _ _ h3 r2
        exact ⟨_, ReadsAll.cons q1 q2, fun a z => (List.mem_append.mp z).elim (n1 a) (n2 a)⟩
theorem DnAll.reads (I : Inv X pins σ H s) : ∀ (ds : List PyData) (vs : List V) (us : List Value), DnAll H vs ds → Vals vs us → ∃ as, ReadsAll s.heap us ds as ∧ ∀ a ∈ as, ∃ o, H a = some o
  | [], _, _, h, r => by
    cases h; cases r; exact ⟨_, ReadsAll.nil, by simp⟩
  | d :: ds, _, _, h, r => by
    cases h with
    | cons h1 h2 =>
      cases r with
      | cons r1 r2 =>
        obtain ⟨as, q1, n1⟩ := Dn.reads I d _ _ h1 r1
        obtain ⟨bs, q2, n2⟩ := DnAll.reads I ds _ _ h2 r2
        exact ⟨_, ReadsAll.cons q1 q2, fun a z => (List.mem_append.mp z).elim (n1 a) (n2 a)⟩
theorem DnKv.reads (I : Inv X pins σ H s) : ∀ (ds : List (PyData × PyData)) (kvs : List (Key × V)) (es : List DictEntry) (vs : List (Key × Value)), DnKv H kvs ds → KV kvs vs → Pairs (mixKind X.prog X.w) es vs → ∃ as, ReadsAll s.heap (es.map (·.val)) (ds.map (·.2)) as ∧ ∀ a ∈ as, ∃ o, H a = some o
  | [], _, _, _, h, r, p => by
    cases h; cases r; cases p; exact ⟨_, ReadsAll.nil, by simp⟩
  | (_, d) :: ds, _, _, _, h, r, p => by
    cases h with
    | cons h1 h2 =>
      cases r with
      | cons r1 r2 =>
        cases p with
        | cons c e p2 =>
          obtain ⟨as, q1, n1⟩ := Dn.reads I d _ _ h1 r1.2
          obtain ⟨bs, q2, n2⟩ := DnKv.reads I ds _ _ _ h2 r2 p2
          exact ⟨_, ReadsAll.cons (show Reads s.heap _ _ _ by dsimp only; rw [e]; exact q1) q2, fun a z => (List.mem_append.mp z).elim (n1 a) (n2 a)⟩
end
end
end Mr
namespace Mr
open PySem PySem.Spec PyProof.Rows L2
variable [Wd]
/-! ### dicts whose keys are tuples -/
section
variable {P : Program} {w : World} {H : Hp} {h : Heap}
mutual
theorem Dn.key (ok : HOk P w H h) : ∀ (d : PyData) (v : V) (u : Value) (k : NestedKey), Dn H v d → RelV v u → keyN d = some k → NestedIs h k u
  | .none, _, _, _, hd, r, hk => by cases hd; cases r; cases hk; exact .none
  | .bool b, _, _, _, hd, r, hk => by cases hd; cases r; cases hk; exact .bool rfl
  | .int i, _, _, _, hd, r, hk => by cases hd; obtain ⟨t, rfl⟩ := r; cases hk; exact .int i t
  | .str x, _, _, _, hd, r, hk => by cases hd; obtain ⟨t, rfl⟩ := r; cases hk; exact .text x t
  | .list ds, _, _, _, hd, r, hk => by cases hk
  | .dict ds, _, _, _, hd, r, hk => by cases hk
  | .tuple ds, _, _, _, hd, r, hk => by
    cases hd with
    | tup e a =>
      cases r
      obtain ⟨hz, its, rv, o, ho, hc, n, hd⟩ := ok _ _ e
      simp only [keyN] at hk
      cases hks : keyNs ds with
      | none => rw [hks] at hk; cases hk
      | some ks =>
        rw [hks] at hk
        cases hk
        exact .tup ho hc hd (by simpa using DnAll.keys ok ds _ its ks a rv hks)
theorem DnAll.keys (ok : HOk P w H h) : ∀ (ds : List PyData) (vs : List V) (us : List Value) (ks : List NestedKey), DnAll H vs ds → Vals vs us → keyNs ds = some ks → NestedAll h ks us
  | [], _, _, _, hd, r, hk => by cases hd; cases r; cases hk; exact .nil
  | d :: ds, _, _, _, hd, r, hk => by
    cases hd with
    | cons a b =>
      cases r with
      | cons r1 r2 =>
        simp only [keyNs] at hk
        cases h1 : keyN d with
        | none => rw [h1] at hk; cases hk
        | some k =>
          cases h2 : keyNs ds with
          | none => rw [h1, h2] at hk; cases hk
          | some ks =>
            rw [h1, h2] at hk
            cases hk
            exact .cons (Dn.key ok d _ _ k a r1 h1) (DnAll.keys ok ds _ _ ks b r2 h2)
end
end
/-- a datum that may be a key: a tuple, not too deep -/
def keyT (d : PyData) : Option NestedKey := match d with
  | .tuple ds => match keyN (.tuple ds) with
    | some k => if k.depth ≤ 8 then some k else none
    | none => none
  | _ => none
def getDn (ds : List (PyData × PyData)) (dk : PyData) : Option PyData := (ds.find? fun e => decide (keyN e.1 = keyN dk)).map (·.2)
def putDn (ds : List (PyData × PyData)) (dk d : PyData) : List (PyData × PyData) := if (getDn ds dk).isSome then ds.map (fun e => if keyN e.1 = keyN dk then (e.1, d) else e) else ds ++ [(dk, d)]
theorem keyT_of {d : PyData} {k : NestedKey} (h : keyT d = some k) : keyN d = some k ∧ k.depth ≤ 8 := by
  unfold keyT at h
  split at h
  · split at h
    · split at h
      · cases h; exact ⟨by assumption, by assumption⟩
      · cases h
    · cases h
  · cases h
theorem keyT_ref {d : PyData} {k : NestedKey} {H : Hp} {v : V} (h : keyT d = some k) (r : Dn H v d) : ∃ b, v = .ref b := by
  unfold keyT at h
  split at h
  · obtain ⟨a, _, e, _⟩ := r.tup_inv; exact ⟨a, e⟩
  · cases h
section
variable {X : Cx} {pins : List (Addr × Obj)} {σ : L2.St} {H : Hp} {s : Shared}
theorem is_of {P : Program} {w : World} {H : Hp} {h : Heap} (ok : HOk P w H h) : ∀ {xs : List (NestedKey × Addr × V)} {ys : List (NestedKey × Addr × Value)} {ds : List (PyData × PyData)}, DnEn H xs ds → XY xs ys → ∀ y ∈ ys, (nestedKind P w).is h y.1 y.2.1
  | _, _, _, .nil, .nil, y, hy => by cases hy
  | _, _, _, .cons (k := k) (p := p) (dk := dk) h1 hk hd h2 h3, .cons r1 r2, y, hy => by
    rcases List.mem_cons.mp hy with rfl | hy
    · have e1 := r1.1
      have e2 := r1.2.1
      dsimp only at e1 e2
      rw [← e1, ← e2]
      exact ⟨Dn.key ok dk _ _ k h1 rfl hk, hd⟩
    · exact is_of ok h3 r2 y hy
/-- the dict at a, in the heap -/
theorem dictN_at (I : Inv X pins σ H s) (hw : X.w = Wd.w) {a : Addr} {o : Obj} {xs : List (NestedKey × Addr × V)} {ds : List (PyData × PyData)} (hH : H a = some (DNo a o xs)) (en : DnEn H xs ds) :
    xs.length ≤ sizeLine ∧ (a == sysModules) = false ∧ ∃ ys, XY xs ys ∧ s.heap.DictOfH (nestedKind X.prog X.w) a ys := by
  obtain ⟨⟨hz, hsys, hnd, es, ep, ys, ho, hex, hd, rv, he⟩, _⟩ := I.hok _ _ hH
  refine ⟨hz, hsys, ys, rv, o, es, ep, ho, hex, hd, ?_, is_of I.hok en rv, ?_⟩
  · rw [he]
    have e : (fun y : NestedKey × Addr × Value => (⟨y.1.hash Wd.w, .ref y.2.1, y.2.2⟩ : DictEntry)) = entryOfKey (nestedKind X.prog X.w) := by
      funext y
      show _ = (⟨y.1.hash X.w, .ref y.2.1, y.2.2⟩ : DictEntry)
      rw [hw]
    rw [e]
  · have : ∀ {xs : List (NestedKey × Addr × V)} {ys : List (NestedKey × Addr × Value)}, XY xs ys → xs.map (·.1) = ys.map (·.1) := by
      intro xs ys r
      induction r with
      | nil => rfl
      | cons a b ih => rw [List.map_cons, List.map_cons, ih, a.1]
    rw [← this rv]; exact hnd
/-- a key's value -/
theorem en_at {k : NestedKey} {dk : PyData} (hk : keyN dk = some k) : ∀ {xs : List (NestedKey × Addr × V)} {ys : List (NestedKey × Addr × Value)} {ds : List (PyData × PyData)}, DnEn H xs ds → XY xs ys →
    (atKey ys k = none ∧ getDn ds dk = none) ∨ ∃ p d v, atKey ys k = some p ∧ getDn ds dk = some d ∧ RelV v p.2 ∧ Dn H v d
  | _, _, _, .nil, .nil => .inl ⟨rfl, rfl⟩
  | _, _, _, .cons (k := k') (p := p) (v := v) (dk := dk') (d := d') (ds := ds') h1 hk' hd h2 h3, .cons (b := y) (l₂ := ys') r1 r2 => by
    have e1 := r1.1
    have e2 := r1.2.2
    dsimp only at e1 e2
    by_cases e : y.1 = k
    · refine .inr ⟨y.2, d', v, ?_, ?_, e2, h2⟩
      · unfold atKey; rw [List.find?_cons_of_pos (by simpa using e)]; rfl
      · unfold getDn; rw [List.find?_cons_of_pos (by simp [hk, hk', e1, e])]; rfl
    · have a1 : atKey (y :: ys') k = atKey ys' k := by unfold atKey; rw [List.find?_cons_of_neg (by simpa using e)]
      have a2 : getDn ((dk', d') :: ds') dk = getDn ds' dk := by unfold getDn; rw [List.find?_cons_of_neg (by simp [hk, hk', e1, e])]
      rw [a1, a2]
      exact en_at hk h3 r2
end
end Mr
namespace Mr
open PySem PySem.Spec PyProof.Rows L2
variable [Wd]
section
variable {X : Cx}
def shI (i : Int) : Option EV := some (.sh (.int i))
def shB (k : Bool) : Option EV := some (.sh (.bool k))
def shS (x : Str) : Option EV := some (.sh (.str x))
theorem nr_int {H0 H : Hp} {i : Int} : NewRes H0 H (.int i) H (.sh (.int i)) := .inl ⟨rfl, .int i⟩
theorem nr_bl {H0 H : Hp} {i : Bool} : NewRes H0 H (.bl i) H (.sh (.bool i)) := .inl ⟨rfl, .bl i⟩
theorem nr_str {H0 H : Hp} {i : Str} : NewRes H0 H (.str i) H (.sh (.str i)) := .inl ⟨rfl, .str i⟩
/-! ### arithmetic -/
def gAdd : PyData → PyData → Option EV
  | .int i, .int j => some (.sh (.int (i + j)))
  | .str x, .str y => if x.length + y.length ≤ sizeLine then some (.sh (.str (x ++ y))) else none
  | .list xs, .list ys => if xs.length + ys.length ≤ sizeLine then some (.ow (.list (xs ++ ys))) else none
  | _, _ => none
theorem op_addM : OpR X (binaryOp .Add) (rD2 gAdd) := by
  intro pins s σ H x y v u Q I rx ry ⟨H0, d1, d2, e, l, r1, r2, hg, q⟩
  cases d1 with
  | int i =>
    cases d2 with
    | int j => cases hg; cases r1; cases r2; exact op_add pins s σ H _ _ v u Q I rx ry ⟨i, j, rfl, rfl, q _ _ nr_int⟩
    | _ => cases hg
  | str a =>
    cases d2 with
    | str b =>
      simp only [gAdd] at hg
      split at hg
      · cases hg; cases r1; cases r2
        exact op_add_str pins s σ H _ _ v u Q I rx ry ⟨a, b, rfl, rfl, by assumption, q _ _ nr_str⟩
      · cases hg
    | _ => cases hg
  | list xs =>
    cases d2 with
    | list ys =>
      simp only [gAdd] at hg
      split at hg
      · cases hg
        obtain ⟨a1, zs, rfl, ha, al⟩ := r1.lst_inv
        obtain ⟨a2, ws, rfl, ha2, al2⟩ := r2.lst_inv
        exact op_cat pins s σ H _ _ v u Q I rx ry ⟨a1, a2, zs, ws, rfl, rfl, l _ _ ha, l _ _ ha2, by rw [al.length, al2.length]; assumption, fun p hp => q _ _ ⟨p, _, _, rfl, rfl, hp, rfl, al.append al2⟩⟩
      · cases hg
    | _ => cases hg
  | _ => cases hg
def gSub : PyData → PyData → Option EV
  | .int i, .int j => some (.sh (.int (i - j)))
  | _, _ => none
theorem op_subM : OpR X (binaryOp .Sub) (rD2 gSub) := by
  intro pins s σ H x y v u Q I rx ry ⟨H0, d1, d2, e, l, r1, r2, hg, q⟩
  cases d1 with
  | int i =>
    cases d2 with
    | int j => cases hg; cases r1; cases r2; exact op_sub pins s σ H _ _ v u Q I rx ry ⟨i, j, rfl, rfl, q _ _ nr_int⟩
    | _ => cases hg
  | _ => cases hg
/-- great numbers: below 2 ^ 400000 each -/
def gMul : PyData → PyData → Option EV
  | .int i, .int j => if (-(2 ^ 64) < i ∧ i < 2 ^ 64) ∨ (-(2 ^ 64) < j ∧ j < 2 ^ 64) then some (.sh (.int (i * j))) else if i.natAbs < 2 ^ 10000 ∧ j.natAbs < 2 ^ 10000 then some (.sh (.int (i * j))) else none
  | .list xs, .int k => if 0 ≤ k ∧ k < 2 ^ 63 ∧ xs.length * k.toNat ≤ sizeLine then some (.ow (.list (List.replicate k.toNat xs).flatten)) else none
  | _, _ => none
theorem DnAll.rep {H : Hp} {vs : List V} {ds : List PyData} (h : DnAll H vs ds) : ∀ n : Nat, DnAll H (List.replicate n vs).flatten (List.replicate n ds).flatten
  | 0 => .nil
  | n + 1 => by simp only [List.replicate_succ, List.flatten_cons]; exact h.append (h.rep n)
theorem op_mulM : OpR X (binaryOp .Mult) (rD2 gMul) := by
  intro pins s σ H x y v u Q I rx ry ⟨H0, d1, d2, e, l, r1, r2, hg, q⟩
  cases d1 with
  | int i =>
    cases d2 with
    | int j =>
      simp only [gMul] at hg
      split at hg
      · cases hg; cases r1; cases r2; exact op_mul pins s σ H _ _ v u Q I rx ry ⟨i, j, rfl, rfl, by assumption, q _ _ nr_int⟩
      · split at hg
        · rename_i hh; cases hg; cases r1; cases r2; exact op_mulW pins s σ H _ _ v u Q I rx ry ⟨i, j, rfl, rfl, wide_mul hh.1 hh.2 (by decide) (by decide) (by decide), q _ _ nr_int⟩
        · cases hg
    | _ => cases hg
  | list xs =>
    cases d2 with
    | int k =>
      simp only [gMul] at hg
      split at hg
      · rename_i hh
        cases hg; cases r2
        obtain ⟨a1, zs, rfl, ha, al⟩ := r1.lst_inv
        exact op_rep pins s σ H _ _ v u Q I rx ry ⟨a1, k, zs, rfl, rfl, l _ _ ha, by omega, hh.2.1, by rw [al.length]; exact hh.2.2, fun p hp => q _ _ ⟨p, _, _, rfl, rfl, hp, rfl, al.rep _⟩⟩
      · cases hg
    | _ => cases hg
  | _ => cases hg
def gMod : PyData → PyData → Option EV
  | .int i, .int j => if 0 < j then some (.sh (.int (i % j))) else none
  | _, _ => none
theorem op_modM : OpR X (binaryOp .Mod) (rD2 gMod) := by
  intro pins s σ H x y v u Q I rx ry ⟨H0, d1, d2, e, l, r1, r2, hg, q⟩
  cases d1 with
  | int i =>
    cases d2 with
    | int j =>
      simp only [gMod] at hg
      split at hg
      · cases hg; cases r1; cases r2; exact op_mod pins s σ H _ _ v u Q I rx ry ⟨i, j, rfl, rfl, by assumption, q _ _ nr_int⟩
      · cases hg
    | _ => cases hg
  | _ => cases hg
def gFdiv : PyData → PyData → Option EV
  | .int i, .int j => if 0 < j ∧ j.natAbs < 2 ^ 9000 then some (.sh (.int (i / j))) else none
  | _, _ => none
theorem op_fdivM : OpR X (binaryOp .FloorDiv) (rD2 gFdiv) := by
  intro pins s σ H x y v u Q I rx ry ⟨H0, d1, d2, e, l, r1, r2, hg, q⟩
  cases d1 with
  | int i =>
    cases d2 with
    | int j =>
      simp only [gFdiv] at hg
      split at hg
      · rename_i hh; cases hg; cases r1; cases r2; exact op_fdivW pins s σ H _ _ v u Q I rx ry ⟨i, j, rfl, rfl, wide_div hh.1 hh.2 (by decide) (by decide), q _ _ nr_int⟩
      · cases hg
    | _ => cases hg
  | _ => cases hg
/-! ### comparisons -/
def okD (d : PyData) : Bool := d.plain && decide (d.depth ≤ 60)
def gEq (d1 d2 : PyData) : Option EV := if okD d1 && okD d2 then some (.sh (.bool (PyData.eqv d1 d2))) else none
def gNe (d1 d2 : PyData) : Option EV := if okD d1 && okD d2 then some (.sh (.bool (!PyData.eqv d1 d2))) else none
theorem okD2 {d1 d2 : PyData} (h : (okD d1 && okD d2) = true) : d1.plain = true ∧ d2.plain = true ∧ d1.depth ≤ 60 ∧ d2.depth ≤ 60 := by
  simp only [okD, Bool.and_eq_true, decide_eq_true_eq] at h
  exact ⟨h.1.1, h.2.1, h.1.2, h.2.2⟩
theorem op_eqM (hu : X.A.units + 64 < cLine) : OpR X (compareOp .Eq) (rD2 gEq) := by
  intro pins s σ H x y v u Q I rx ry ⟨H0, d1, d2, e, l, r1, r2, hg, q⟩
  unfold gEq at hg
  split at hg
  · rename_i h
    cases hg
    obtain ⟨p1, p2, e1, e2⟩ := okD2 h
    obtain ⟨as, R1, _⟩ := Dn.reads I d1 x v (Dn.mono l _ _ r1) rx
    obtain ⟨bs, R2, _⟩ := Dn.reads I d2 y u (Dn.mono l _ _ r2) ry
    exact SeqAt.eq_plain R1 R2 p1 p2 (by omega) ⟨.bl _, H, I, rfl, q _ _ nr_bl⟩
  · cases hg
theorem op_neM (hu : X.A.units + 64 < cLine) : OpR X (compareOp .NotEq) (rD2 gNe) := by
  intro pins s σ H x y v u Q I rx ry ⟨H0, d1, d2, e, l, r1, r2, hg, q⟩
  unfold gNe at hg
  split at hg
  · rename_i h
    cases hg
    obtain ⟨p1, p2, e1, e2⟩ := okD2 h
    obtain ⟨as, R1, _⟩ := Dn.reads I d1 x v (Dn.mono l _ _ r1) rx
    obtain ⟨bs, R2, _⟩ := Dn.reads I d2 y u (Dn.mono l _ _ r2) ry
    exact SeqAt.ne_plain R1 R2 p1 p2 (by omega) ⟨.bl _, H, I, rfl, q _ _ nr_bl⟩
  · cases hg
def isNone : PyData → Bool
  | .none => true
  | _ => false
def okC (d1 d2 : PyData) : Bool := PySem.W.alike d1 d2 && !isNone d1 && decide (d1.depth ≤ 60)
theorem okC_ok {d1 d2 : PyData} (h : okC d1 d2 = true) : PySem.W.alike d1 d2 = true ∧ d1 ≠ .none ∧ d1.depth ≤ 60 := by
  simp only [okC, Bool.and_eq_true, decide_eq_true_eq] at h
  refine ⟨h.1.1, ?_, h.2⟩
  intro z; subst z; simp [isNone] at h
def gLt (d1 d2 : PyData) : Option EV := if okC d1 d2 then some (.sh (.bool (PySem.W.dataLt d1 d2))) else none
def gLe (d1 d2 : PyData) : Option EV := if okC d1 d2 then some (.sh (.bool (!PySem.W.dataLt d2 d1))) else none
def gGt (d1 d2 : PyData) : Option EV := if okC d1 d2 then some (.sh (.bool (PySem.W.dataLt d2 d1))) else none
def gGe (d1 d2 : PyData) : Option EV := if okC d1 d2 then some (.sh (.bool (!PySem.W.dataLt d1 d2))) else none
theorem op_ltM (hu : X.A.units + 64 < cLine) : OpR X (compareOp .Lt) (rD2 gLt) := by
  intro pins s σ H x y v u Q I rx ry ⟨H0, d1, d2, e, l, r1, r2, hg, q⟩
  unfold gLt at hg
  split at hg
  · rename_i h
    cases hg
    obtain ⟨p1, p2, e1⟩ := okC_ok h
    obtain ⟨as, R1, _⟩ := Dn.reads I d1 x v (Dn.mono l _ _ r1) rx
    obtain ⟨bs, R2, _⟩ := Dn.reads I d2 y u (Dn.mono l _ _ r2) ry
    exact PySem.W.lt_data R1 R2 p1 p2 (by omega) ⟨.bl _, H, I, rfl, q _ _ nr_bl⟩
  · cases hg
theorem op_leM (hu : X.A.units + 64 < cLine) : OpR X (compareOp .LtE) (rD2 gLe) := by
  intro pins s σ H x y v u Q I rx ry ⟨H0, d1, d2, e, l, r1, r2, hg, q⟩
  unfold gLe at hg
  split at hg
  · rename_i h
    cases hg
    obtain ⟨p1, p2, e1⟩ := okC_ok h
    obtain ⟨as, R1, _⟩ := Dn.reads I d1 x v (Dn.mono l _ _ r1) rx
    obtain ⟨bs, R2, _⟩ := Dn.reads I d2 y u (Dn.mono l _ _ r2) ry
    exact PySem.W.le_data R1 R2 p1 p2 (by omega) ⟨.bl _, H, I, rfl, q _ _ nr_bl⟩
  · cases hg
theorem op_gtM (hu : X.A.units + 64 < cLine) : OpR X (compareOp .Gt) (rD2 gGt) := by
  intro pins s σ H x y v u Q I rx ry ⟨H0, d1, d2, e, l, r1, r2, hg, q⟩
  unfold gGt at hg
  split at hg
  · rename_i h
    cases hg
    obtain ⟨p1, p2, e1⟩ := okC_ok h
    obtain ⟨as, R1, _⟩ := Dn.reads I d1 x v (Dn.mono l _ _ r1) rx
    obtain ⟨bs, R2, _⟩ := Dn.reads I d2 y u (Dn.mono l _ _ r2) ry
    exact PySem.W.gt_data R1 R2 p1 p2 (by omega) ⟨.bl _, H, I, rfl, q _ _ nr_bl⟩
  · cases hg
theorem op_geM (hu : X.A.units + 64 < cLine) : OpR X (compareOp .GtE) (rD2 gGe) := by
  intro pins s σ H x y v u Q I rx ry ⟨H0, d1, d2, e, l, r1, r2, hg, q⟩
  unfold gGe at hg
  split at hg
  · rename_i h
    cases hg
    obtain ⟨p1, p2, e1⟩ := okC_ok h
    obtain ⟨as, R1, _⟩ := Dn.reads I d1 x v (Dn.mono l _ _ r1) rx
    obtain ⟨bs, R2, _⟩ := Dn.reads I d2 y u (Dn.mono l _ _ r2) ry
    exact PySem.W.ge_data R1 R2 p1 p2 (by omega) ⟨.bl _, H, I, rfl, q _ _ nr_bl⟩
  · cases hg
/-! ### items and slices -/
def gIx : PyData → PyData → Option EV
  | .list xs, .int i => (atI xs i).map .sh
  | .tuple xs, .int i => (atI xs i).map .sh
  | .str z, .int i => if z.length ≤ sizeLine then (atI z.cps.toList i).map fun c => .sh (.str ⟨#[c]⟩) else none
  | _, _ => none
theorem DnAll.at {H : Hp} {vs : List V} {ds : List PyData} {i : Int} {d : PyData} (h : DnAll H vs ds) (e : atI ds i = some d) : ∃ v, atI vs i = some v ∧ Dn H v d := by
  unfold atI at e ⊢
  rw [h.length]
  cases hj : ixN ds.length i with
  | none => rw [hj] at e; cases e
  | some j => rw [hj] at e; exact h.get e
theorem ix_M : IxR X (rD2 gIx) := by
  intro value slice pins s σ H x y v u Q I rx ry ⟨H0, d1, d2, e, l, r1, r2, hg, q⟩ hsub
  cases d1 with
  | list xs =>
    cases d2 with
    | int i =>
      cases r2
      simp only [gIx, Option.map_eq_some_iff] at hg
      obtain ⟨d, hd, rfl⟩ := hg
      obtain ⟨a1, zs, rfl, ha, al⟩ := r1.lst_inv
      obtain ⟨z, hz, rz⟩ := al.at hd
      refine ix_list value slice pins s σ H _ _ v u Q I rx ry ⟨a1, zs, i, z, rfl, rfl, .inl (.inl (l _ _ ha)), hz, q _ _ (.inl ⟨rfl, rz⟩)⟩ hsub
    | _ => cases hg
  | tuple xs =>
    cases d2 with
    | int i =>
      cases r2
      simp only [gIx, Option.map_eq_some_iff] at hg
      obtain ⟨d, hd, rfl⟩ := hg
      obtain ⟨a1, zs, rfl, ha, al⟩ := r1.tup_inv
      obtain ⟨z, hz, rz⟩ := al.at hd
      refine ix_tup value slice pins s σ H _ _ v u Q I rx ry ⟨a1, zs, i, z, rfl, rfl, .inl (.inl (l _ _ ha)), hz, q _ _ (.inl ⟨rfl, rz⟩)⟩ hsub
    | _ => cases hg
  | str z =>
    cases d2 with
    | int i =>
      cases r1; cases r2
      simp only [gIx] at hg
      split at hg
      · simp only [Option.map_eq_some_iff] at hg
        obtain ⟨c, hc, rfl⟩ := hg
        refine ix_str value slice pins s σ H _ _ v u Q I rx ry ⟨z, i, c, rfl, rfl, by assumption, hc, q _ _ nr_str⟩ hsub
      · cases hg
    | _ => cases hg
  | _ => cases hg
theorem me_ix {a c : Expr} {m1 m2 : EM} {pos : Pos} (ha : ME X a m1) (hb : ME X c m2) (hs : PlainIx c := by intro _ _; rfl) : ME X (.Subscript a c pos) (eBin gIx m1 m2) := PE.weak (pe_ix ix_M ha hb hs) fun _ _ _ => bin_rd
/-- a slice's part -/
abbrev OM := Env → Bag → Out (Option Int)
def rdO (m : OM) : TO := fun σ H Q => ∃ b He H0e ρ B H0, SR b He H0e σ ρ B H0 H ∧ match m ρ B with
  | .ok c B' => ∀ H0' H', Gr b H H0 H' H0' → SR b He H0e σ ρ B' H0' H' → Q c H'
  | .bad => False
def oNone : OM := fun _ B => .ok none B
def oSome (m : EM) : OM := fun ρ B => (m ρ B).bind fun e B1 => match e with
  | .sh (.int i) => .ok (some i) B1
  | _ => .bad
abbrev MO (X : Cx) (e : Option Expr) (m : OM) : Prop := PO X e (rdO m)
theorem mo_none : MO X none oNone := by
  have := po_none (X := X)
  exact ⟨fun pins s0 σ H Q I ⟨b, He, H0e, ρ, B, H0, s, q⟩ => this.run pins s0 σ H Q I (q H0 H (Gr.refl s.hr.fb) s)⟩
theorem mo_some {e : Expr} {m : EM} (h : ME X e m) : MO X (some e) (oSome m) := by
  have := po_some h
  refine ⟨fun pins s0 σ H Q I ⟨b, He, H0e, ρ, B, H0, s, q⟩ => this.run pins s0 σ H Q I ?_⟩
  unfold oSome at q
  cases h1 : m ρ B with
  | bad => rw [h1] at q; exact q.elim
  | ok e1 B1 =>
    rw [h1, bind_ok] at q
    refine rdE_at s h1 fun v H01 H1 g1 s1 r1 => ?_
    cases e1 with
    | ow d => exact q.elim
    | bg => exact q.elim
    | sh d =>
      cases d with
      | int k => exact ⟨k, Dn.int_inv r1, q H01 H1 g1 s1⟩
      | _ => exact q.elim
def cutL {α : Type} (xs : List α) (lo hi : Option Int) : List α := (xs.drop (HT.sIx xs.length 0 lo)).take (HT.sIx xs.length xs.length hi - HT.sIx xs.length 0 lo)
def gSl (lo hi : Option Int) : PyData → Option EV
  | .list xs => some (.ow (.list (cutL xs lo hi)))
  | .str z => if z.length ≤ sizeLine then some (.sh (.str (cutS z lo hi))) else none
  | _ => none
def eSl (m : EM) (ol oh : OM) : EM := fun ρ B => (m ρ B).bind fun e B1 => (ol ρ B1).bind fun l B2 => (oh ρ B2).bind fun h B3 => liftO (e.data.bind (gSl l h)) B3
theorem DnAll.cut {H : Hp} {vs : List V} {ds : List PyData} (h : DnAll H vs ds) (lo hi : Option Int) : DnAll H (cutV vs lo hi) (cutL ds lo hi) := by
  unfold cutV cutL
  rw [h.length]
  exact (h.drop _).take _
theorem me_sl {a : Expr} {lo hi : Option Expr} {m : EM} {ol oh : OM} {pos p2 : Pos} (ha : ME X a m) (hl : MO X lo ol) (hh : MO X hi oh) : ME X (.Subscript a (.Slice lo hi none p2) pos) (eSl m ol oh) := ⟨fun pins s0 σ H Q I ⟨b, He, H0e, ρ, B, H0, s, q⟩ => by
  unfold eSl at q
  cases h1 : m ρ B with
  | bad => rw [h1] at q; exact q.elim
  | ok e1 B1 =>
    rw [h1, bind_ok] at q
    cases h2 : ol ρ B1 with
    | bad => rw [h2] at q; exact q.elim
    | ok l B2 =>
      rw [h2, bind_ok] at q
      cases h3 : oh ρ B2 with
      | bad => rw [h3] at q; exact q.elim
      | ok h B3 =>
        rw [h3, bind_ok] at q
        cases hd1 : e1.data with
        | none => rw [hd1] at q; exact q.elim
        | some d1 =>
          rw [hd1] at q
          have key : ∀ (r : V → Option Int → Option Int → Hp → VK → Prop), SlR X r → (∀ v H02 H3 s', Dn H02 v d1 → HR b B3 H02 H3 → (∀ z H5 e, NewRes H02 H3 z H5 e → gSl l h d1 = some e → s' z H5) → r v l h H3 s') → wpAny (model X.prog X.w) X.A (eval (.Subscript a (.Slice lo hi none p2) pos) X.env) (EP X pins σ Q) X.xe s0 := by
            intro r hr hk
            refine (pe_slice hr ha hl hh).run pins s0 σ H Q I (rdE_at s h1 fun v H01 H1 g1 s1 r1 => ?_)
            obtain ⟨H02, g2, s2, D1⟩ := s.data g1 s1 r1 hd1
            refine ⟨b, He, H0e, ρ, B1, H02, s2, ?_⟩
            rw [h2]
            intro H03 H3 g3 s3
            refine ⟨b, He, H0e, ρ, B2, H03, s3, ?_⟩
            rw [h3]
            intro H04 H4 g4 s4
            refine hk v H04 H4 Q (Dn.mono (g3.trans g4).l0 _ _ D1) s4.hr fun z H5 e n he => ?_
            simp only [Option.bind_some, he, liftO_some] at q
            obtain ⟨H05, g5, s5, r5⟩ := n.ok s4
            have gg := (g2.trans g3).trans g4
            exact q z H05 H5 (gg.trans g5) s5 (r5.back gg)
          cases d1 with
          | list xs =>
            refine key _ sl_list fun v H02 H3 s' D hr n => ?_
            obtain ⟨a1, zs, rfl, ha', al⟩ := D.lst_inv
            exact ⟨a1, zs, rfl, .inl (.inl (hr.le _ _ ha')), fun p hp => n _ _ (.ow (.list (cutL xs l h))) ⟨p, _, _, rfl, rfl, hp, rfl, al.cut l h⟩ rfl⟩
          | str z =>
            by_cases hz : z.length ≤ sizeLine
            · refine key _ sl_str fun v H02 H3 s' D hr n => ?_
              obtain rfl := D.str_inv
              exact ⟨z, rfl, hz, n _ _ _ nr_str (by simp [gSl, hz])⟩
            · simp [gSl, hz] at q
          | _ => exact q.elim⟩
end
end Mr
namespace Mr
open PySem PySem.Spec PyProof.Rows L2
variable [Wd]

/-! ### defs that are called where nothing is being shown (repr) -/
structure FnG (P : Program) (w : World) (K : PySem.W.Frag) (mg : Str → Option Value) (base : Heap)
    (k : Nat) (f : Addr) (fd : FuncData) (ps : List Str) (sp : Sp) : Prop where
  glen : ∀ xs h q e, sp xs h q e → xs.length = ps.length
  grun : ∀ (A : Around) (out : List PySem.Env) (s : Shared) (h : Hp) (gs : Args) (us : List Value) (xs : List V) (q : VK) (e : XK),
    A.guards = some [] → Room k A → Env0 P w K mg base A out s h → BindsTo s fd gs (ps.zip us) → Vals xs us → sp xs h q e →
    codeAny (model P w) A (.call (.ref f) gs) (CR CX0 out P w h s q e) s
theorem FnG.of_ok {P : Program} {w : World} {K : PySem.W.Frag} {mg : Str → Option Value} {base : Heap}
    {k : Nat} {f : Addr} {fd : FuncData} {ps : List Str} {sp : Sp} (F : FnOk P w K mg base CX0 k f fd ps sp) : FnG P w K mg base k f fd ps sp :=
  ⟨F.len, fun A out s h gs us xs q e _ => F.run A out s h gs us xs q e⟩
theorem FnG.mono {P : Program} {w : World} {K : PySem.W.Frag} {mg : Str → Option Value} {base : Heap}
    {j k : Nat} {f : Addr} {fd : FuncData} {ps : List Str} {sp : Sp} (F : FnG P w K mg base j f fd ps sp) (hjk : j ≤ k) : FnG P w K mg base k f fd ps sp :=
  ⟨F.glen, fun A out s h gs us xs q e g hr => F.grun A out s h gs us xs q e g (hr.mono hjk)⟩
theorem FnG.imp {P : Program} {w : World} {K : PySem.W.Frag} {mg : Str → Option Value} {base : Heap}
    {k : Nat} {f : Addr} {fd : FuncData} {ps : List Str} {sp sp' : Sp} (F : FnG P w K mg base k f fd ps sp) (hi : ∀ xs h q e, sp' xs h q e → sp xs h q e) : FnG P w K mg base k f fd ps sp' :=
  ⟨fun xs h q e z => F.glen xs h q e (hi _ _ _ _ z), fun A out s h gs us xs q e g hr e0 hb r z => F.grun A out s h gs us xs q e g hr e0 hb r (hi _ _ _ _ z)⟩

section
variable {X : Cx} {k : Nat} {f : Addr} {fd : FuncData} {ps : List Str} {sp : Sp}
theorem runG {pins : List (Addr × Obj)} {σ : L2.St} {H : Hp} {s : Shared} {Q : VK} {us : List Value} {vs : List V}
    (F : FnG X.prog X.w X.K X.mg X.base k f fd ps sp) (hgu : X.A.guards = some []) (hr : Room k X.A) (hb : Binds X.K fd ps [])
    (I : Inv X pins σ H s) (r : Vals vs us) (h : sp vs H Q E0) : wpAny (model X.prog X.w) X.A (call (.ref f) us) (EP X pins σ Q) X.xe s := by
  have hlen : us.length = ps.length := by rw [← r.length]; exact F.glen _ _ _ _ h
  have hb' := hb s us I.kIn (by rw [List.append_nil]; exact hlen)
  rw [List.append_nil] at hb'
  have z := F.grun X.A X.stack s H ⟨us, []⟩ us vs Q E0 hgu hr I.env0 hb' r h
  refine wpAny_call (codeAny_mono z fun res s' hq => ?_)
  match res, hq with
  | .error e, hq => exact hq.elim
  | .ok (.ret u), hq => exact I.after hq
theorem pe_callG {x : Str} {e : Expr} {es : List Expr} {t : TA} {p pos : Pos}
    (F : FnG X.prog X.w X.K X.mg X.base k f fd ps sp) (hgu : X.A.guards = some []) (hr : Room k X.A) (hg : Gl X x) (hm : X.mg x = some (.ref f))
    (hk : PySem.W.keepIn X.K (.ref f) = true) (hb : Binds X.K fd ps []) (ha : PA X (e :: es) t)
    (hdb : (x == ("__debug__" : Str)) = false := by decide)
    (he : starEach (e :: es) X.env = (false, eval e X.env) :: starEach es X.env := by rfl)
    (hpl : (backTo pos (starEach es X.env)).any (·.1) = false := by rfl) :
    PE X (.Call (.Name x p) (e :: es) [] pos) (fun σ H Q => t σ H fun vs H1 => sp vs H1 Q E0) :=
  ⟨fun pins s σ H Q I h => wpAny_Call_Name_kw (ld_glob I hg hm
    (PySem.W.callWith_K (h₀ := X.base) I.ok.mod.kin hk (thn (ha.run pos pins s σ H _ I h) fun us s1 hz => by
      obtain ⟨vs, H1, I1, rv, z⟩ := hz
      exact ⟨I1.kIn, runG F hgu hr hb I1 rv z⟩) he hpl) hdb)⟩
theorem pe_callG0 {x : Str} {p pos : Pos}
    (F : FnG X.prog X.w X.K X.mg X.base k f fd ps sp) (hgu : X.A.guards = some []) (hr : Room k X.A) (hg : Gl X x) (hm : X.mg x = some (.ref f))
    (hk : PySem.W.keepIn X.K (.ref f) = true) (hb : Binds X.K fd ps [])
    (hdb : (x == ("__debug__" : Str)) = false := by decide) :
    PE X (.Call (.Name x p) [] [] pos) (fun σ H Q => sp [] H Q E0) :=
  ⟨fun pins s σ H Q I h => wpAny_Call_Name_kw (ld_glob I hg hm
    (PySem.W.callWith_K0 I.kIn hk (runG (us := []) F hgu hr hb I .nil h)) hdb)⟩
end
section
variable {P : Program} {w : World} {K : PySem.W.Frag} {mg : Str → Option Value} {base : Heap}
theorem Fun.okG {x qual : Str} {st : Stmt} {f : Addr} {fd : FuncData} {N ps : List Str} {k : Nat} {sp : Sp} (F : Fun K x qual st f fd) (S : FnScope N ps (defScope st))
    (len : ∀ vs H Q E, sp vs H Q E → vs.length = ps.length)
    (hbody : ∀ (cdv : Value) (A : Around) (out : List PySem.Env) (s : Shared) (H : Hp) (vs : List V) (Q : VK) (E : XK),
      (A.deeper (envOfC qual (defScope st) s.heap.objs.size f cdv)).guards = some [] → Room k (A.deeper (envOfC qual (defScope st) s.heap.objs.size f cdv)) → sp vs H Q E →
      ∃ t, PSs (cxOf CX0 P w K mg base N qual (defScope st) f cdv A out s H E).nox (defBody st) t ∧
        t { nx := fun _ H' => Q .non H', rt := Q } (L2.start N vs) H) : FnG P w K mg base (k + 1) f fd ps sp := by
  obtain ⟨oc, od, kV, doc, pm, an, cdv, ct, osl, rfl, lk, hcd⟩ := F.ex
  refine ⟨len, fun A out s H gs us vs Q E hgu hr e0 hb rv hsp => ?_⟩
  have hlen := len _ _ _ _ hsp
  have hkin : K.In s.heap := e0.mod.kin.keeps fun a o z => (e0.bs a o z).1
  have hlim : s.heap.NoLimit := e0.mod.nolimit.keeps fun a o z => (e0.bs a o z).1
  have hkd : ∀ y ∈ ps.zip us, (defScope st).names.lookup y.1 = some .local ∨
      ((defScope st).names.lookup y.1 = some .cell ∧ ((cellsFrom (s.heap.objs.size + 1) (defScope st).names []).lookup y.1).isSome = true) := by
    intro y hy
    obtain ⟨nm, va⟩ := y
    have hpar := S.par nm (List.of_mem_zip hy).1
    cases hpar with
    | inl z => exact .inl z
    | inr z => exact .inr ⟨z, PySem.W.cellsFrom_some _ _ _ (.inl z)⟩
  refine codeAny_call_function hr.depth (hkin _ _ lk) rfl S.co S.gen rfl (PySem.W.codeRec_of hkin hcd) (hb _ _ _ _ ?_)
  refine wpAny_newFunctionEnv_cells S.kind hkd fun env henv s1 hx => ?_
  subst henv
  refine ⟨hlim.keeps hx.toInCall.keep, codeAny_func ?_⟩
  obtain ⟨t, ht, hq⟩ := hbody cdv A out s H vs Q E hgu (hr.deeper _) hsp
  have I := inv_start (CX := CX0) (E := E) S hr.hd e0 hlen rv hx
  have fin : ∀ {s' : Shared} {σ' : L2.St} {H' : Hp} {v : V} {u : Value}, Inv (cxOf CX0 P w K mg base N qual (defScope st) f cdv A out s H E) [] σ' H' s' → RelV v u → Q v H' → CE out P w H s Q u s' :=
    fun {_ _ H' v _} J r z => ⟨v, H', J.os, J.bare, J.base, J.hok, r, z⟩
  refine wpAny_mono (ht.nox.run [] s1 (L2.start N vs) H _ I hq) (fun fl s' hs => ?_) fun e s' hs => hs
  match fl, hs with
  | .ret u, ⟨v, σ', H', J, r, z⟩ => exact fin J r z
  | .next, ⟨σ', H', J, z⟩ => exact fin (v := V.non) (u := Value.none) J rfl z
  | .brk, ⟨_, _, _, z⟩ => exact False.elim z
  | .cont, ⟨_, _, _, z⟩ => exact False.elim z
end
end Mr
namespace Mr
open PySem PySem.Spec PyProof.Rows L2
variable [Wd]
/-- a def by its mirror -/
structure FnM (P : Program) (w : World) (K : PySem.W.Frag) (mg : Str → Option Value) (base : Heap) (k : Nat) (x : Str) (n : Nat) (mf : FM) : Prop where
  ex : ∃ f fd ps, FnG P w K mg base k f fd ps (spM n mf) ∧ mg x = some (.ref f) ∧ PySem.W.keepIn K (.ref f) = true ∧ Binds K fd ps []
theorem call_rdG {ms : AM} {mf : FM} {n : Nat} {σ : L2.St} {H : Hp} {Q : VK} (h : rdE (eCall n mf ms) σ H Q) : rdA ms σ H fun vs H1 => spM n mf vs H1 Q E0 := by
  have z := call_rd (E := E0) h
  refine Exists.elim z fun b z => ?_
  obtain ⟨He, H0e, ρ, B, H0, s, q⟩ := z
  refine ⟨b, He, H0e, ρ, B, H0, s, ?_⟩
  cases h1 : ms ρ B with
  | bad => rw [h1] at q; exact q.elim
  | ok es1 B1 =>
    rw [h1] at q
    intro vs H01 H1 g1 s1 r1
    have y := q vs H01 H1 g1 s1 r1
    dsimp only at y
    rwa [List.append_nil] at y
section
variable {X : Cx} {k n : Nat} {x : Str} {mf : FM} {e : Expr} {es : List Expr} {ms : AM} {p pos : Pos}
theorem me_call (G : FnM X.prog X.w X.K X.mg X.base k x n mf) (hgu : X.A.guards = some []) (hr : Room k X.A) (hg : Gl X x) (ha : MA X (e :: es) ms)
    (hdb : (x == ("__debug__" : Str)) = false := by decide) (he : starEach (e :: es) X.env = (false, eval e X.env) :: starEach es X.env := by rfl)
    (hpl : (backTo pos (starEach es X.env)).any (·.1) = false := by rfl) :
    ME X (.Call (.Name x p) (e :: es) [] pos) (eCall n mf ms) := by
  obtain ⟨f, fd, ps, F, hm, hk, hb⟩ := G.ex
  exact PE.weak (pe_callG F hgu hr hg hm hk hb ha hdb he hpl) fun _ _ _ => call_rdG
end
section
variable {P : Program} {w : World} {K : PySem.W.Frag} {mg : Str → Option Value} {base : Heap}
theorem FnM.of {x qual : Str} {st : Stmt} {f : Addr} {fd : FuncData} {N ps : List Str} {k n : Nat} {ms : SM} (F : Fun K x qual st f fd) (hm : mg x = some (.ref f)) (hb : Binds K fd ps []) (S : FnScope N ps (defScope st)) (hn : ps.length = n)
    (walk : ∀ (cdv : Value) (A : Around) (out : List PySem.Env) (s : Shared) (H : Hp) (E : XK), (A.deeper (envOfC qual (defScope st) s.heap.objs.size f cdv)).guards = some [] → Room k (A.deeper (envOfC qual (defScope st) s.heap.objs.size f cdv)) →
      MSs (cxOf CX0 P w K mg base N qual (defScope st) f cdv A out s H E).nox (defBody st) ms) : FnM P w K mg base (k + 1) x n (mfn N.length ms) := by
  refine ⟨f, fd, ps, Fun.okG F S (fun vs H Q E h => ?_) (fun cdv A out s H vs Q E hgu hr h => ?_), hm, F.kp, hb⟩
  · obtain ⟨b, B, H0, es, _, r, hl, _⟩ := h
    rw [r.length, hl, hn]
  · obtain ⟨b, B, H0, es, hr0, r, hl, q⟩ := h
    refine ⟨_, walk cdv A out s H E hgu hr, b, H, H0, _, B, H0, SR.start hr0 r, ?_⟩
    unfold mfn at q
    cases h1 : ms (es.map some ++ List.replicate (N.length - es.length) none) B with
    | bad => rw [h1] at q; exact q.elim
    | ok fl B' =>
      rw [h1] at q
      cases fl with
      | nx ρ' => exact fun σ' H0' H' _ s' => q .non H0' H' s'.gr s'.hr .non
      | bk ρ' => exact q.elim
      | ct ρ' => exact q.elim
      | rt e => exact fun v H0' H' hr' g' r' => q v H0' H' g' hr' r'
theorem FnM.mono {x : Str} {j k n : Nat} {mf : FM} (G : FnM P w K mg base j x n mf) (h : j ≤ k) : FnM P w K mg base k x n mf := by
  obtain ⟨f, fd, ps, F, z⟩ := G.ex
  exact ⟨f, fd, ps, F.mono h, z⟩
/-- a mirror that says less -/
theorem FnM.weak {x : Str} {k n : Nat} {mf mf' : FM} (G : FnM P w K mg base k x n mf) (h : ∀ es B, es.length = n → mf' es B ≠ .bad → mf es B = mf' es B) : FnM P w K mg base k x n mf' := by
  obtain ⟨f, fd, ps, F, z⟩ := G.ex
  refine ⟨f, fd, ps, F.imp fun vs H Q E y => ?_, z⟩
  obtain ⟨b, B, H0, es, hr, r, hl, q⟩ := y
  refine ⟨b, B, H0, es, hr, r, hl, ?_⟩
  rw [h es B hl (fun c => by rw [c] at q; exact q.elim)]
  exact q
end
/-! ### built-in functions -/
section
variable {X : Cx} {x : Str} {e : Expr} {es : List Expr} {ms : AM} {p pos : Pos}
theorem cb_rd {g : List PyData → Option EV} {σ : L2.St} {H : Hp} {Q : VK} (h : rdE (eCB g ms) σ H Q) : tCB (rDA g) (rdA ms) σ H Q := by
  obtain ⟨b, He, H0e, ρ, B, H0, s, q⟩ := h
  unfold eCB at q
  cases h1 : ms ρ B with
  | bad => rw [h1] at q; exact q.elim
  | ok es1 B1 =>
    rw [h1, bind_ok] at q
    refine rdA_at s h1 fun vs H01 H1 g1 s1 r1 => ?_
    cases hd : dataAll es1 with
    | none => rw [hd] at q; exact q.elim
    | some ds =>
      rw [hd] at q
      cases hg : g ds with
      | none => simp [hg] at q
      | some e =>
        simp [hg] at q
        refine ⟨H01, ds, e, s1.hr.le, r1.all hd, hg, fun z H5 n => ?_⟩
        obtain ⟨H05, g5, s5, r5⟩ := n.ok s1
        exact q z H05 H5 (g1.trans g5) s5 (r5.back g1)
theorem me_cb {id : String} {g : List PyData → Option EV} (hc : CallR X (.builtin id) (rDA g)) (hg : Gl X x) (hm : X.mg x = none) (hv : bootBuiltins x = some (.builtin id)) (ha : MA X (e :: es) ms) (hn : x ≠ "__name__" := by decide) (hdb : (x == ("__debug__" : Str)) = false := by decide)
    (he : starEach (e :: es) X.env = (false, eval e X.env) :: starEach es X.env := by rfl) (hpl : (backTo pos (starEach es X.env)).any (·.1) = false := by rfl) : ME X (.Call (.Name x p) (e :: es) [] pos) (eCB g ms) :=
  PE.weak (pe_callB hc hg hm hv ha hn hdb he hpl) fun _ _ _ => cb_rd
theorem me_ct {T : String} {g : List PyData → Option EV} (hc : CallR X (.type T) (rDA g)) (hg : Gl X x) (hm : X.mg x = none) (hv : bootBuiltins x = some (.type T)) (ha : MA X (e :: es) ms) (hn : x ≠ "__name__" := by decide) (hdb : (x == ("__debug__" : Str)) = false := by decide)
    (he : starEach (e :: es) X.env = (false, eval e X.env) :: starEach es X.env := by rfl) (hpl : (backTo pos (starEach es X.env)).any (·.1) = false := by rfl) : ME X (.Call (.Name x p) (e :: es) [] pos) (eCB g ms) :=
  PE.weak (pe_callTy hc hg hm hv ha hn hdb he hpl) fun _ _ _ => cb_rd
end
section
variable {X : Cx}
def gLen : List PyData → Option EV
  | [.list xs] => some (.sh (.int xs.length))
  | [.tuple xs] => some (.sh (.int xs.length))
  | [.str z] => if z.length ≤ sizeLine then some (.sh (.int z.length)) else none
  | _ => none
theorem DnAll.one {H : Hp} {vs : List V} {d : PyData} (h : DnAll H vs [d]) : ∃ v, vs = [v] ∧ Dn H v d := by
  cases h with
  | cons a r => cases r; exact ⟨_, rfl, a⟩
theorem DnAll.two {H : Hp} {vs : List V} {d d' : PyData} (h : DnAll H vs [d, d']) : ∃ v v', vs = [v, v'] ∧ Dn H v d ∧ Dn H v' d' := by
  cases h with
  | cons a r =>
    obtain ⟨v, rfl, r'⟩ := r.one
    exact ⟨_, _, rfl, a, r'⟩
theorem cr_lenM : CallR X (.builtin "len") (rDA gLen) := by
  intro pins s σ H vs us Q I r ⟨H0, ds, e, l, ra, hg, q⟩
  unfold gLen at hg
  split at hg
  · cases hg
    obtain ⟨v, rfl, rv⟩ := ra.one
    obtain ⟨a1, zs, rfl, ha, al⟩ := rv.lst_inv
    rw [← al.length] at q
    exact call_len_seq pins s σ H _ us Q I r ⟨a1, zs, rfl, .inl (.inl (.inl (l _ _ ha))), q _ _ nr_int⟩
  · cases hg
    obtain ⟨v, rfl, rv⟩ := ra.one
    obtain ⟨a1, zs, rfl, ha, al⟩ := rv.tup_inv
    rw [← al.length] at q
    exact call_len_seq pins s σ H _ us Q I r ⟨a1, zs, rfl, .inr (.inl (.inl (l _ _ ha))), q _ _ nr_int⟩
  · split at hg
    · cases hg
      obtain ⟨v, rfl, rv⟩ := ra.one
      obtain rfl := rv.str_inv
      exact call_len_str pins s σ H _ us Q I r ⟨_, rfl, by assumption, q _ _ nr_int⟩
    · cases hg
  · cases hg
def gInt : List PyData → Option EV
  | [.int i] => some (.sh (.int i))
  | _ => none
theorem cr_intM : CallR X (.type "int") (rDA gInt) := by
  intro pins s σ H vs us Q I r ⟨H0, ds, e, l, ra, hg, q⟩
  unfold gInt at hg
  split at hg
  · cases hg
    obtain ⟨v, rfl, rv⟩ := ra.one
    obtain rfl := rv.int_inv
    exact call_int1 pins s σ H _ us Q I r (.inl ⟨_, rfl, q _ _ nr_int⟩)
  · cases hg
def gAbs : List PyData → Option EV
  | [.int i] => some (.sh (.int (if i < 0 then -i else i)))
  | _ => none
theorem cr_absM : CallR X (.builtin "abs") (rDA gAbs) := by
  intro pins s σ H vs us Q I r ⟨H0, ds, e, l, ra, hg, q⟩
  unfold gAbs at hg
  split at hg
  · cases hg
    obtain ⟨v, rfl, rv⟩ := ra.one
    obtain rfl := rv.int_inv
    exact call_abs pins s σ H _ us Q I r ⟨_, rfl, q _ _ nr_int⟩
  · cases hg
/-! sorted -/
def leD (a c : PyData) : Bool := PySem.W.dataLe false id a c
def allAlikeB (ds : List PyData) : Bool := ds.all fun d => ds.all fun d' => PySem.W.alike d d'
def isTup1 : PyData → Bool
  | .tuple (_ :: _) => true
  | _ => false
def isOther : PyData → Bool
  | .none => false
  | .tuple _ => false
  | _ => true
def sortOk (ds : List PyData) : Bool := allAlikeB ds && (ds.all isTup1 || ds.all isOther) && ds.all (fun d => decide (d.depth ≤ 60)) && decide (ds.length ≤ sizeLine)
def gSorted : List PyData → Option EV
  | [.list ds] => if sortOk ds then some (.ow (.list (ds.mergeSort leD))) else none
  | _ => none
theorem each_pairs {H : Hp} : ∀ {vs : List V} {ds : List PyData} {us : List Value}, DnAll H vs ds → Vals vs us → PySem.W.EachIs (fun (u : Value) (p : V × PyData) => RelV p.1 u ∧ Dn H p.1 p.2) us (vs.zip ds)
  | [], _, _, h, r => by cases h; cases r; exact .nil
  | v :: vs, _, _, h, r => by
    cases h with
    | cons a b =>
      cases r with
      | cons c d => exact .cons ⟨c, a⟩ (each_pairs b d)
theorem each_unzip {H : Hp} : ∀ {us : List Value} {ps : List (V × PyData)}, PySem.W.EachIs (fun (u : Value) (p : V × PyData) => RelV p.1 u ∧ Dn H p.1 p.2) us ps → Vals (ps.map (·.1)) us ∧ DnAll H (ps.map (·.1)) (ps.map (·.2))
  | [], _, h => by cases h; exact ⟨.nil, .nil⟩
  | u :: us, _, h => by
    cases h with
    | cons a b => exact ⟨.cons a.1 (each_unzip b).1, .cons a.2 (each_unzip b).2⟩
theorem zip_snd {H : Hp} : ∀ {vs : List V} {ds : List PyData}, DnAll H vs ds → (vs.zip ds).map (·.2) = ds
  | [], _, h => by cases h; rfl
  | v :: vs, _, h => by
    cases h with
    | cons a b => simp [zip_snd b]
theorem cr_sortedM (hu : X.A.units + 64 < cLine) : CallR X (.builtin "sorted") (rDA gSorted) := by
  intro pins s σ H vs us Q I r ⟨H0, ds, e, l, ra, hg, q⟩
  unfold gSorted at hg
  split at hg
  · rename_i ds
    split at hg
    · rename_i ok
      cases hg
      simp only [sortOk, Bool.and_eq_true, decide_eq_true_eq, Bool.or_eq_true] at ok
      obtain ⟨⟨⟨ok1, ok2⟩, ok3⟩, ok4⟩ := ok
      obtain ⟨v, rfl, rv⟩ := ra.one
      obtain ⟨a1, zs, rfl, ha, al⟩ := rv.lst_inv
      have ha' := l _ _ ha
      obtain ⟨its, rvs, hl, hsz⟩ := I.list (show SqL X.K H a1 zs from .inl (.inl ha'))
      rw [Vals.ref1 r]
      have ee := each_pairs al rvs
      have er : PySem.W.EachIs (fun (u : Value) (p : V × PyData) => ∃ as, Reads s.heap u p.2 as) its (zs.zip ds) := ee.mono fun u p hp => by
        obtain ⟨as, hr, _⟩ := Dn.reads I p.2 p.1 u (Dn.mono l _ _ hp.2) hp.1
        exact ⟨as, hr⟩
      have e2 := zip_snd al
      have len2 : (zs.zip ds).length = ds.length := by rw [List.length_zip, al.length]; exact Nat.min_self _
      refine PySem.W.sorted_data (enc := fun p : V × PyData => p.2) hl.isList ee er ?_ ?_ (by rw [len2]; exact ok4) ?_ fun out ho eo => ?_
      · rw [e2]
        intro d hd d' hd'
        have := List.all_eq_true.mp ok1 d hd
        exact List.all_eq_true.mp this d' hd'
      · rw [e2]
        rcases ok2 with ok2 | ok2
        · left
          intro d hd
          have := List.all_eq_true.mp ok2 d hd
          cases d with
          | tuple xs => cases xs with
            | nil => cases this
            | cons x xs => exact ⟨x, xs, rfl⟩
          | _ => cases this
        · right
          intro d hd
          have := List.all_eq_true.mp ok2 d hd
          cases d with
          | none => cases this
          | tuple xs => cases this
          | _ => exact ⟨nofun, fun _ => nofun⟩
      · intro p hp
        have hm : p.2 ∈ ds := by rw [← e2]; exact List.mem_map_of_mem hp
        have := List.all_eq_true.mp ok3 p.2 hm
        simp only [decide_eq_true_eq] at this
        omega
      · obtain ⟨ep, he'⟩ := PyProof.Rows.sortedAll_at s.heap its out.toArray
        obtain ⟨u1, u2⟩ := each_unzip eo
        have e3 : ((zs.zip ds).mergeSort (PySem.W.dataLe false fun p : V × PyData => p.2)).map (·.2) = ds.mergeSort leD := by
          rw [List.map_mergeSort (s := leD), e2]
          intro a _ c _
          rfl
        have hp : H (s.heap.objs.size + 1) = none := I.hok.fresh (Nat.le_succ _)
        have lenS : (((zs.zip ds).mergeSort (PySem.W.dataLe false fun p : V × PyData => p.2)).map (·.1)).length ≤ sizeLine := by
          rw [List.length_map, List.length_mergeSort, len2]; exact ok4
        refine ⟨.ref _, upd H (s.heap.objs.size + 1) (.lst (((zs.zip ds).mergeSort (PySem.W.dataLe false fun p : V × PyData => p.2)).map (·.1))), I.laid (t' := s.toks) (fun _ _ => PyProof.Rows.sortedAll_old) (Nat.le_succ _) ⟨lenS, out, ep, u1, ?_⟩, rfl, q _ _ ⟨_, _, _, rfl, rfl, hp, rfl, ?_⟩⟩
        · exact he'
        · rw [← e3]
          exact u2
    · cases hg
  · cases hg
end
end Mr
namespace Mr
open PySem PySem.Spec PyProof.Rows L2
variable [Wd]
section
variable {X : Cx}
/-! ### repr -/
def gRepr : List PyData → Option EV
  | [d] => if d.showable && !d.hasDict && decide (d.depth ≤ 60) && decide (d.shown.length ≤ sizeLine) then some (.sh (.str d.shown)) else none
  | _ => none
/-- .. of data with dicts in it -/
def gReprD : List PyData → Option EV
  | [d] => if d.showable && decide (d.depth ≤ 60) && decide (d.shown.length ≤ sizeLine) then some (.sh (.str d.shown)) else none
  | _ => none
theorem repr_core {pins : List (Addr × Obj)} {s : Shared} {σ : L2.St} {H H0 : Hp} {v : V} {u : Value} {Q : VK} {d : PyData} (hgu : X.A.guards = some []) (hu : X.A.units + 64 < cLine) (I : Inv X pins σ H s) (rv : RelV v u) (l : Le H0 H) (D : Dn H0 v d)
    (h1 : d.showable = true) (h2 : d.hasDict = true → H sysModules = none) (h3 : d.depth ≤ 60) (h4 : d.shown.length ≤ sizeLine) (q : Q (.str d.shown) H) : wpAny (model X.prog X.w) X.A (call (.builtin "repr") [u]) (EP X pins σ Q) X.xe s := by
  obtain ⟨as, R, T⟩ := Dn.reads I d v u (Dn.mono l _ _ D) rv
  have hs : d.hasDict = true → sysModules ∉ as := fun hd hm => by
    obtain ⟨o, ho⟩ := T _ hm
    rw [h2 hd] at ho; cases ho
  have fin : ∀ (h' : Heap) (t' : Tok) (tk : Nat), (∀ b o, s.heap.get? b = some o → h'.get? b = some o) → EP X pins σ Q (.str d.shown t') { s with heap := h', toks := tk } :=
    fun h' t' tk hk => ⟨.str d.shown, H, I.kept hk, ⟨_, rfl⟩, q⟩
  cases R with
  | none => exact PySem.P.repr_of_none (fin s.heap _ _ fun _ _ z => z)
  | bool b => exact PySem.P.repr_of_bool (fin s.heap _ _ fun _ _ z => z)
  | int i t =>
    simp only [PyData.showable, decide_eq_true_eq] at h1
    exact PySem.P.repr_of_int h1 (fin s.heap _ _ fun _ _ z => z)
  | str x t => exact PySem.P.repr_of_str (fin s.heap _ _ fun _ _ z => z) h4
  | list a1 a2 a3 a4 => exact repr_of_reads' (.list a1 a2 a3 a4) h1 hs hgu (by omega) (fun _ _ z => z) (fun h' t' tk hk => fin h' t' tk hk) h4
  | tuple a1 a2 a3 a4 => exact repr_of_reads' (.tuple a1 a2 a3 a4) h1 hs hgu (by omega) (fun _ _ z => z) (fun h' t' tk hk => fin h' t' tk hk) h4
  | dict a1 a2 a3 a4 a5 => exact repr_of_reads' (.dict a1 a2 a3 a4 a5) h1 hs hgu (by omega) (fun _ _ z => z) (fun h' t' tk hk => fin h' t' tk hk) h4
theorem cr_reprM (hgu : X.A.guards = some []) (hu : X.A.units + 64 < cLine) : CallR X (.builtin "repr") (rDA gRepr) := by
  intro pins s σ H vs us Q I r ⟨H0, ds, e, l, ra, hg, q⟩
  unfold gRepr at hg
  split at hg
  · rename_i d
    split at hg
    · rename_i ok
      cases hg
      simp only [Bool.and_eq_true, decide_eq_true_eq, Bool.not_eq_true'] at ok
      obtain ⟨v, rfl, rv⟩ := ra.one
      obtain ⟨u, rfl, ru⟩ := vals1 r
      exact repr_core hgu hu I ru l rv ok.1.1.1 (fun z => by rw [ok.1.1.2] at z; cases z) ok.1.2 ok.2 (q _ _ nr_str)
    · cases hg
  · cases hg
theorem noSys (hS : ∃ o, X.base.get? sysModules = some o) {pins : List (Addr × Obj)} {s : Shared} {σ : L2.St} {H : Hp} (I : Inv X pins σ H s) : H sysModules = none := by
  obtain ⟨o, ho⟩ := hS
  obtain ⟨h1, h2⟩ := I.ok.bs _ _ ho
  exact I.base.free _ _ h1 h2 (I.ok.noex _ _ ho)
theorem cr_reprDM (hS : ∃ o, X.base.get? sysModules = some o) (hgu : X.A.guards = some []) (hu : X.A.units + 64 < cLine) : CallR X (.builtin "repr") (rDA gReprD) := by
  intro pins s σ H vs us Q I r ⟨H0, ds, e, l, ra, hg, q⟩
  unfold gReprD at hg
  split at hg
  · rename_i d
    split at hg
    · rename_i ok
      cases hg
      simp only [Bool.and_eq_true, decide_eq_true_eq] at ok
      obtain ⟨v, rfl, rv⟩ := ra.one
      obtain ⟨u, rfl, ru⟩ := vals1 r
      exact repr_core hgu hu I ru l rv ok.1.1 (fun _ => noSys hS I) ok.1.2 ok.2 (q _ _ nr_str)
    · cases hg
  · cases hg
/-! ### isinstance -/
def isT (T : String) (d : PyData) : Option Bool :=
  if T = "int" then some d.isInt else if T = "bool" then some d.isBool else if T = "str" then some d.isStr else if T = "list" then some d.isList else if T = "tuple" then some d.isTuple else if T = "dict" then some d.isDict else none
def gIsi (T : String) (d : PyData) : Option EV := (isT T d).map fun k => .sh (.bool k)
def rIsi (T : String) : List V → Hp → VK → Prop := fun xs H Q => ∃ v H0 d k, xs = [v, .ty T] ∧ Le H0 H ∧ Dn H0 v d ∧ isT T d = some k ∧ Q (.bl k) H
theorem cr_isi (T : String) : CallR X (.builtin "isinstance") (rIsi T) := by
  intro pins s σ H vs us Q I r ⟨v, H0, d, k, e, l, D, hk, q⟩
  subst e
  obtain ⟨u, u2, rfl, ru, r2⟩ := vals2 r
  obtain rfl : u2 = Value.type T := r2
  obtain ⟨as, R, _⟩ := Dn.reads I d v u (Dn.mono l _ _ D) ru
  have fin : ∀ tk, EP X pins σ Q (.bool k) { s with toks := tk } := fun tk => ⟨.bl k, H, I.tok tk, rfl, q⟩
  unfold isT at hk
  split at hk
  · rename_i hT; subst hT; cases hk; exact PySem.W.isinstance_int_data R fun tk _ => fin tk
  · split at hk
    · rename_i hT; subst hT; cases hk; exact PySem.W.isinstance_bool_data R fun tk _ => fin tk
    · split at hk
      · rename_i hT; subst hT; cases hk; exact PySem.W.isinstance_str_data R fun tk _ => fin tk
      · split at hk
        · rename_i hT; subst hT; cases hk; exact PySem.W.isinstance_list_data R fun tk _ => fin tk
        · split at hk
          · rename_i hT; subst hT; cases hk; exact PySem.W.isinstance_tuple_data R fun tk _ => fin tk
          · split at hk
            · rename_i hT; subst hT; cases hk; exact PySem.W.isinstance_dict_data R fun tk _ => fin tk
            · cases hk
theorem me_isi {T : String} {y : Str} {a : Expr} {m : EM} {p p2 pos : Pos} (hg : Gl X "isinstance") (hm : X.mg "isinstance" = none) (ha : ME X a m) (hgT : Gl X y) (hmT : X.mg y = none) (hvT : bootBuiltins y = some (.type T)) (hnT : y ≠ "__name__" := by decide) (hdT : (y == ("__debug__" : Str)) = false := by decide)
    (he : starEach [a, .Name y p2] X.env = (false, eval a X.env) :: starEach [.Name y p2] X.env := by rfl) (he2 : starEach [.Name y p2] X.env = (false, eval (.Name y p2) X.env) :: starEach [] X.env := by rfl) (hpl : (backTo pos (starEach [.Name y p2] X.env)).any (·.1) = false := by rfl) :
    ME X (.Call (.Name "isinstance" p) [a, .Name y p2] [] pos) (eUn (gIsi T) m) :=
  PE.weak (pe_callB (cr_isi T) hg hm PyProof.Rows.boot_isinstance (pa_cons ha (pa_cons (pe_bltn hgT hmT hvT (v := .ty T) rfl hnT hdT) pa_nil he2) he) (by decide) (by decide) he hpl) fun σ H Q ⟨b, He, H0e, ρ, B, H0, s, q⟩ => by
    unfold eUn at q
    cases h1 : m ρ B with
    | bad => rw [h1] at q; exact q.elim
    | ok e1 B1 =>
      rw [h1, bind_ok] at q
      refine rdE_at s h1 fun v H01 H1 g1 s1 r1 => ?_
      cases hd1 : e1.data with
      | none => rw [hd1] at q; exact q.elim
      | some d1 =>
        obtain ⟨H02, g2, s2, D1⟩ := s.data g1 s1 r1 hd1
        rw [hd1] at q
        cases hg : isT T d1 with
        | none => simp [hg, gIsi] at q
        | some k =>
          simp [hg, gIsi] at q
          exact ⟨v, H02, d1, k, rfl, s2.hr.le, D1, hg, q _ H02 H1 g2 s2 (.bl k)⟩
/-! ### all, any of truths -/
def boolsD : List PyData → Option (List Bool)
  | [] => some []
  | .bool b :: r => (boolsD r).map (b :: ·)
  | _ => none
theorem DnAll.bools {H : Hp} : ∀ {vs : List V} {ds : List PyData} {bs : List Bool}, DnAll H vs ds → boolsD ds = some bs → vs = bs.map V.bl
  | [], _, _, h, e => by cases h; cases e; rfl
  | v :: vs, _, bs, h, e => by
    cases h with
    | cons a b =>
      rename_i d ds
      cases d with
      | bool k =>
        simp only [boolsD, Option.map_eq_some_iff] at e
        obtain ⟨bs', e1, rfl⟩ := e
        rw [a.bl_inv, b.bools e1]
        rfl
      | _ => cases e
def gAll : List PyData → Option EV
  | [.list ds] => (boolsD ds).map fun bs => .sh (.bool (bs.all id))
  | _ => none
def gAny : List PyData → Option EV
  | [.list ds] => (boolsD ds).map fun bs => .sh (.bool (bs.any id))
  | _ => none
theorem cr_allM (hc : X.calm = true) : CallR X (.builtin "all") (rDA gAll) := by
  intro pins s σ H vs us Q I r ⟨H0, ds, e, l, ra, hg, q⟩
  unfold gAll at hg
  split at hg
  · simp only [Option.map_eq_some_iff] at hg
    obtain ⟨bs, hb, rfl⟩ := hg
    obtain ⟨v, rfl, rv⟩ := ra.one
    obtain ⟨a1, zs, rfl, ha, al⟩ := rv.lst_inv
    have := al.bools hb
    subst this
    exact cr_all hc pins s σ H _ us Q I r ⟨a1, bs, rfl, .inl (.inl (l _ _ ha)), q _ _ nr_bl⟩
  · cases hg
theorem cr_anyM (hc : X.calm = true) : CallR X (.builtin "any") (rDA gAny) := by
  intro pins s σ H vs us Q I r ⟨H0, ds, e, l, ra, hg, q⟩
  unfold gAny at hg
  split at hg
  · simp only [Option.map_eq_some_iff] at hg
    obtain ⟨bs, hb, rfl⟩ := hg
    obtain ⟨v, rfl, rv⟩ := ra.one
    obtain ⟨a1, zs, rfl, ha, al⟩ := rv.lst_inv
    have := al.bools hb
    subst this
    exact cr_any hc pins s σ H _ us Q I r ⟨a1, bs, rfl, .inl (.inl (l _ _ ha)), q _ _ nr_bl⟩
  · cases hg
/-! ### min, max of two texts or two ints -/
def strAt (x y : Str) (i : Nat) : Str := if i = 0 then x else y
theorem two_keep {s : Shared} {h' : Heap} {o1 o2 : Obj} {wr : Addr} (hw : wr = s.heap.objs.size + 1) (hk : ∀ b o, b ∉ [wr] → ((s.heap.push o1).push o2).get? b = some o → h'.get? b = some o) : ∀ c o, s.heap.get? c = some o → h'.get? c = some o := fun c o e => by
  refine hk c o (fun hm => ?_) (Heap.get?_push_of_some _ (Heap.get?_push_of_some _ e))
  have hlt := Heap.lt_size e
  simp only [List.mem_singleton] at hm
  rw [hm, hw] at hlt
  exact Nat.lt_irrefl _ (Nat.lt_of_succ_lt hlt)
theorem min_two_strs {prog : Program} {w : World} {A : Around} {E : Value → Shared → Prop} {s : Shared} {x y : Str} {t u : Tok} {Q : Value → Shared → Prop} (hh : A.handled = none) (hu : A.units + 64 < cLine)
    (h : ∀ h' tk, (∀ c o, s.heap.get? c = some o → h'.get? c = some o) → Q (if y.cps.toList < x.cps.toList then .str y u else .str x t) { s with heap := h', toks := tk }) :
    wpAny (model prog w) A (call (.builtin "min") [.str x t, .str y u]) Q E s := by
  have hT : (s.heap.push { cls := .type "tuple", data := .seq #[.str x t, .str y u] }).IsTuple s.heap.objs.size #[.str x t, .str y u] := ⟨_, Heap.get?_push_size _ rfl, rfl, 0, rfl⟩
  have hsz : (s.heap.push { cls := .type "tuple", data := .seq #[.str x t, .str y u] }).objs.size = s.heap.objs.size + 1 := Heap.size_push ..
  have hcmp : CmpOf prog w A.in1 .Lt (fun i v => (#[Value.str x t, Value.str y u])[i]? = some v) (fun i j => decide ((strAt x y i).cps.toList < (strAt x y j).cps.toList)) := by
    intro i j vi vj s' Q' E' hi hj hq
    have sh : ∀ (n : Nat) (v : Value), (#[Value.str x t, Value.str y u])[n]? = some v → ∃ k, v = .str (strAt x y n) k := by
      intro n v hn
      match n, hn with
      | 0, hn => exact ⟨t, by simpa [strAt] using hn.symm⟩
      | 1, hn => exact ⟨u, by simpa [strAt] using hn.symm⟩
      | n + 2, hn => simp at hn
    obtain ⟨k1, rfl⟩ := sh i vi hi
    obtain ⟨k2, rfl⟩ := sh j vj hj
    exact PySem.W.rcLt_alike (.str _) (.str _) A.in1 s' _ _ [] [] (.str _ _) (.str _ _) rfl nofun (by show A.units + 1 + 0 < cLine; omega) prog w E' Q' (by rw [PySem.W.dataLt_str]; exact hq)
  refine call_min_two (wpAny_pyIter_tuple hT ?_)
  refine ⟨_, [_, s.heap.objs.size], [_], _, _, _, _, rfl, Walks.tuple (A := A.in1) hh _ s.heap.objs.size (by rw [hsz]; exact Nat.ne_of_lt (Nat.lt_succ_self _)) #[.str x t, .str y u],
    ⟨⟨_, Heap.get?_push_size _ rfl, rfl, rfl⟩, hT.push _⟩, fun c hc => ?_, by simp, hcmp, fun v h' tk hP hk => ?_⟩
  · show c < ((s.heap.push _).push _).objs.size
    rw [Heap.size_push, hsz]
    simp only [List.mem_cons, List.not_mem_nil, or_false, hsz] at hc
    rcases hc with rfl | rfl
    · exact Nat.lt_succ_self _
    · exact Nat.lt_succ_of_lt (Nat.lt_succ_self _)
  · have hv : v = if y.cps.toList < x.cps.toList then Value.str y u else Value.str x t := by
      by_cases hb : y.cps.toList < x.cps.toList
      · have e : argBest (fun i j => decide ((strAt x y i).cps.toList < (strAt x y j).cps.toList)) 1 = 1 := by simp [argBest, strAt, hb]
        have hP' : (#[Value.str x t, Value.str y u])[argBest (fun i j => decide ((strAt x y i).cps.toList < (strAt x y j).cps.toList)) 1]? = some v := hP
        rw [e] at hP'
        simpa [hb] using hP'.symm
      · have e : argBest (fun i j => decide ((strAt x y i).cps.toList < (strAt x y j).cps.toList)) 1 = 0 := by simp [argBest, strAt, hb]
        have hP' : (#[Value.str x t, Value.str y u])[argBest (fun i j => decide ((strAt x y i).cps.toList < (strAt x y j).cps.toList)) 1]? = some v := hP
        rw [e] at hP'
        simpa [hb] using hP'.symm
    rw [hv]; exact h h' tk (two_keep hsz hk)
theorem max_two_strs {prog : Program} {w : World} {A : Around} {E : Value → Shared → Prop} {s : Shared} {x y : Str} {t u : Tok} {Q : Value → Shared → Prop} (hh : A.handled = none) (hu : A.units + 64 < cLine)
    (h : ∀ h' tk, (∀ c o, s.heap.get? c = some o → h'.get? c = some o) → Q (if x.cps.toList < y.cps.toList then .str y u else .str x t) { s with heap := h', toks := tk }) :
    wpAny (model prog w) A (call (.builtin "max") [.str x t, .str y u]) Q E s := by
  have hT : (s.heap.push { cls := .type "tuple", data := .seq #[.str x t, .str y u] }).IsTuple s.heap.objs.size #[.str x t, .str y u] := ⟨_, Heap.get?_push_size _ rfl, rfl, 0, rfl⟩
  have hsz : (s.heap.push { cls := .type "tuple", data := .seq #[.str x t, .str y u] }).objs.size = s.heap.objs.size + 1 := Heap.size_push ..
  have hcmp : CmpOf prog w A.in1 .Gt (fun i v => (#[Value.str x t, Value.str y u])[i]? = some v) (fun i j => decide ((strAt x y j).cps.toList < (strAt x y i).cps.toList)) := by
    intro i j vi vj s' Q' E' hi hj hq
    have sh : ∀ (n : Nat) (v : Value), (#[Value.str x t, Value.str y u])[n]? = some v → ∃ k, v = .str (strAt x y n) k := by
      intro n v hn
      match n, hn with
      | 0, hn => exact ⟨t, by simpa [strAt] using hn.symm⟩
      | 1, hn => exact ⟨u, by simpa [strAt] using hn.symm⟩
      | n + 2, hn => simp at hn
    obtain ⟨k1, rfl⟩ := sh i vi hi
    obtain ⟨k2, rfl⟩ := sh j vj hj
    exact PySem.W.rcGt_alike (.str _) (.str _) A.in1 s' _ _ [] [] (.str _ _) (.str _ _) rfl nofun (by show A.units + 1 + 0 < cLine; omega) prog w E' Q' (by rw [PySem.W.dataLt_str]; exact hq)
  refine call_max_two (wpAny_pyIter_tuple hT ?_)
  refine ⟨_, [_, s.heap.objs.size], [_], _, _, _, _, rfl, Walks.tuple (A := A.in1) hh _ s.heap.objs.size (by rw [hsz]; exact Nat.ne_of_lt (Nat.lt_succ_self _)) #[.str x t, .str y u],
    ⟨⟨_, Heap.get?_push_size _ rfl, rfl, rfl⟩, hT.push _⟩, fun c hc => ?_, by simp, hcmp, fun v h' tk hP hk => ?_⟩
  · show c < ((s.heap.push _).push _).objs.size
    rw [Heap.size_push, hsz]
    simp only [List.mem_cons, List.not_mem_nil, or_false, hsz] at hc
    rcases hc with rfl | rfl
    · exact Nat.lt_succ_self _
    · exact Nat.lt_succ_of_lt (Nat.lt_succ_self _)
  · have hv : v = if x.cps.toList < y.cps.toList then Value.str y u else Value.str x t := by
      by_cases hb : x.cps.toList < y.cps.toList
      · have e : argBest (fun i j => decide ((strAt x y j).cps.toList < (strAt x y i).cps.toList)) 1 = 1 := by simp [argBest, strAt, hb]
        have hP' : (#[Value.str x t, Value.str y u])[argBest (fun i j => decide ((strAt x y j).cps.toList < (strAt x y i).cps.toList)) 1]? = some v := hP
        rw [e] at hP'
        simpa [hb] using hP'.symm
      · have e : argBest (fun i j => decide ((strAt x y j).cps.toList < (strAt x y i).cps.toList)) 1 = 0 := by simp [argBest, strAt, hb]
        have hP' : (#[Value.str x t, Value.str y u])[argBest (fun i j => decide ((strAt x y j).cps.toList < (strAt x y i).cps.toList)) 1]? = some v := hP
        rw [e] at hP'
        simpa [hb] using hP'.symm
    rw [hv]; exact h h' tk (two_keep hsz hk)
def minS (x y : Str) : Str := if y.cps.toList < x.cps.toList then y else x
def maxS (x y : Str) : Str := if x.cps.toList < y.cps.toList then y else x
def gMin : List PyData → Option EV
  | [.str x, .str y] => some (.sh (.str (minS x y)))
  | [.int x, .int y] => some (.sh (.int (if y < x then y else x)))
  | _ => none
def gMax : List PyData → Option EV
  | [.str x, .str y] => some (.sh (.str (maxS x y)))
  | [.int x, .int y] => some (.sh (.int (if y > x then y else x)))
  | _ => none
theorem cr_minM (hc : X.calm = true) (hu : X.A.units + 64 < cLine) : CallR X (.builtin "min") (rDA gMin) := by
  intro pins s σ H vs us Q I r ⟨H0, ds, e, l, ra, hg, q⟩
  unfold gMin at hg
  split at hg
  · rename_i x y
    cases hg
    obtain ⟨v, v2, rfl, rv, rv2⟩ := ra.two
    obtain rfl := rv.str_inv
    obtain rfl := rv2.str_inv
    obtain ⟨u, u2, rfl, ⟨t, rfl⟩, ⟨t2, rfl⟩⟩ := vals2 r
    refine min_two_strs (I.ok.hd hc) hu fun h' tk k => ⟨.str (minS x y), H, I.kept k, ?_, q _ _ nr_str⟩
    unfold minS
    by_cases hb : y.cps.toList < x.cps.toList
    · rw [if_pos hb, if_pos hb]; exact ⟨_, rfl⟩
    · rw [if_neg hb, if_neg hb]; exact ⟨_, rfl⟩
  · cases hg
    obtain ⟨v, v2, rfl, rv, rv2⟩ := ra.two
    obtain rfl := rv.int_inv
    obtain rfl := rv2.int_inv
    exact call_min2 hc pins s σ H _ us Q I r ⟨_, _, rfl, q _ _ nr_int⟩
  · cases hg
theorem cr_maxM (hc : X.calm = true) (hu : X.A.units + 64 < cLine) : CallR X (.builtin "max") (rDA gMax) := by
  intro pins s σ H vs us Q I r ⟨H0, ds, e, l, ra, hg, q⟩
  unfold gMax at hg
  split at hg
  · rename_i x y
    cases hg
    obtain ⟨v, v2, rfl, rv, rv2⟩ := ra.two
    obtain rfl := rv.str_inv
    obtain rfl := rv2.str_inv
    obtain ⟨u, u2, rfl, ⟨t, rfl⟩, ⟨t2, rfl⟩⟩ := vals2 r
    refine max_two_strs (I.ok.hd hc) hu fun h' tk k => ⟨.str (maxS x y), H, I.kept k, ?_, q _ _ nr_str⟩
    unfold maxS
    by_cases hb : x.cps.toList < y.cps.toList
    · rw [if_pos hb, if_pos hb]; exact ⟨_, rfl⟩
    · rw [if_neg hb, if_neg hb]; exact ⟨_, rfl⟩
  · cases hg
    obtain ⟨v, v2, rfl, rv, rv2⟩ := ra.two
    obtain rfl := rv.int_inv
    obtain rfl := rv2.int_inv
    exact call_max2 hc pins s σ H _ us Q I r ⟨_, _, rfl, q _ _ nr_int⟩
  · cases hg
end
end Mr
namespace Mr
open PySem PySem.Spec PyProof.Rows L2
variable [Wd]
/-! ### the bag: read and stored by its places -/
def bagGet (B : Bag) : Nat → Option EV
  | 0 => some (.sh (.int B.x0))
  | 1 => some (.sh (.int B.x1))
  | 2 => some (.sh (.int B.x2))
  | 3 => some (.sh (.list (B.cells.map PyData.int)))
  | _ => none
def bagSet (B : Bag) (v : Int) : Nat → Option Bag
  | 0 => if 0 ≤ v then some { B with x0 := v } else none
  | 1 => if 0 ≤ v ∧ v < 2147483647 then some { B with x1 := v } else none
  | 2 => if 0 ≤ v then some { B with x2 := v } else none
  | _ => none
def isBg (ρ : Env) (j : Nat) : Bool := match ρ[j]? with
  | some (some .bg) => true
  | _ => false
def eBg (j k : Nat) : EM := fun ρ B => if isBg ρ j then liftO (bagGet B k) B else .bad
def intOf : EV → Option Int
  | .sh (.int i) => some i
  | _ => none
def sBg (j k : Nat) (m : EM) : SM := fun ρ B => (m ρ B).bind fun e B1 => if isBg ρ j then (match (intOf e).bind fun v => bagSet B1 v k with
  | some B2 => .ok (.nx ρ) B2
  | none => .bad) else .bad
/-- bag[k] += e -/
def sBgAdd (j k : Nat) (m : EM) : SM := fun ρ B => if isBg ρ j then (match (bagGet B k).bind intOf with
  | some x => (m ρ B).bind fun e B1 => (match (intOf e).bind fun v => bagSet B1 (x + v) k with
    | some B2 => .ok (.nx ρ) B2
    | none => .bad)
  | none => .bad) else .bad
section
variable {b : Addr × Addr} {He H0e H0 H : Hp} {σ : L2.St} {ρ : Env} {B B' : Bag}
theorem SR.isBg (s : SR b He H0e σ ρ B H0 H) {j : Nat} (h : isBg ρ j = true) : σ[j]? = some (some (.ref b.1)) := by
  unfold Mr.isBg at h
  split at h
  · rename_i hj
    obtain ⟨v, hv, r⟩ := s.slot j _ hj
    have : v = .ref b.1 := r
    rw [hv, this]
  · cases h
theorem bag_at (s : SR b He H0e σ ρ B H0 H) {k : Nat} {e : EV} (h : bagGet B k = some e) : ∃ v, atI [V.int B.x0, V.int B.x1, V.int B.x2, V.ref b.2] (k : Int) = some v ∧ VR b H H0 H v e := by
  match k, h with
  | 0, h => cases h; exact ⟨_, rfl, .int _⟩
  | 1, h => cases h; exact ⟨_, rfl, .int _⟩
  | 2, h => cases h; exact ⟨_, rfl, .int _⟩
  | 3, h => cases h; exact ⟨_, rfl, .lst s.hr.bag.2 (DnAll.ints _)⟩
/-- the bag's ints change -/
theorem SR.bagS (s : SR b He H0e σ ρ B H0 H) (ok : BagOk B') (hc : B'.cells = B.cells) : SR b He H0e σ ρ B' H0 (upd H b.1 (.lst [V.int B'.x0, V.int B'.x1, V.int B'.x2, V.ref b.2])) := by
  have g : Gr b H H0 (upd H b.1 (.lst [V.int B'.x0, V.int B'.x1, V.int B'.x2, V.ref b.2])) H0 := ⟨fun a o na e => by rw [upd_ne na]; exact e, Le.refl _, fun _ _ _ n => n, s.hr.fb⟩
  refine s.more g ⟨fun a o e => ?_, s.hr.fb, ⟨upd_same, by rw [hc]; exact s.hr.bag.2⟩, ok⟩
  rw [upd_ne (ne_of_none e s.hr.fb)]; exact s.hr.le a o e
theorem bagSet_ok {v : Int} {k : Nat} (ok : BagOk B) (h : bagSet B v k = some B') : BagOk B' ∧ B'.cells = B.cells ∧ ∃ j, ixN 4 (k : Int) = some j ∧ [V.int B.x0, V.int B.x1, V.int B.x2, V.ref b.2].set j (V.int v) = [V.int B'.x0, V.int B'.x1, V.int B'.x2, V.ref b.2] := by
  match k, h with
  | 0, h =>
    simp only [bagSet] at h
    split at h
    · cases h; exact ⟨⟨by assumption, ok.a1, ok.a2, ok.cs⟩, rfl, 0, rfl, rfl⟩
    · cases h
  | 1, h =>
    simp only [bagSet] at h
    split at h
    · cases h; exact ⟨⟨ok.a0, by assumption, ok.a2, ok.cs⟩, rfl, 1, rfl, rfl⟩
    · cases h
  | 2, h =>
    simp only [bagSet] at h
    split at h
    · cases h; exact ⟨⟨ok.a0, ok.a1, by assumption, ok.cs⟩, rfl, 2, rfl, rfl⟩
    · cases h
end
section
variable {X : Cx} {e : Expr} {m : EM} {pos : Pos}
theorem me_bg {j k : Nat} {x : Str} {xp cp : Pos} {c} (hx : PE X (.Name x xp) (tVar j)) : ME X (.Subscript (.Name x xp) (.Constant (.int (k : Int)) c cp) pos) (eBg j k) :=
  PE.weak (pe_ix ix_list hx pe_int (fun _ _ => rfl)) fun σ H Q ⟨b, He, H0e, ρ, B, H0, s, q⟩ => by
    unfold eBg at q
    by_cases hb : isBg ρ j = true
    · rw [if_pos hb] at q
      cases hk : bagGet B k with
      | none => rw [hk] at q; exact q.elim
      | some e =>
        rw [hk] at q
        obtain ⟨v, hv, r⟩ := bag_at s hk
        exact ⟨_, s.isBg hb, b.1, _, k, v, rfl, rfl, .inl (.inl s.hr.bag.1), hv, q v H0 H (Gr.refl s.hr.fb) s r⟩
    · rw [if_neg hb] at q; exact q.elim
theorem intOf_inv {b : Addr × Addr} {H H0 H' : Hp} {v : V} {e : EV} {k : Int} (r : VR b H H0 H' v e) (h : intOf e = some k) : v = .int k := by
  cases e with
  | ow d => cases h
  | bg => cases h
  | sh d =>
    cases d with
    | int k' => cases h; exact Dn.int_inv r
    | _ => cases h
theorem ms_bg {j k : Nat} {x : Str} {xp cp tp : Pos} {c} (hx : PE X (.Name x xp) (tVar j)) (he : ME X e m)
    (hs : swapsWithSole [.Subscript (.Name x xp) (.Constant (.int (k : Int)) c cp) tp] e pos.line X.env = pure false := by rfl)
    (hw : swappedStores [.Subscript (.Name x xp) (.Constant (.int (k : Int)) c cp) tp] e X.env = pure none := by rfl)
    (h1 : (assignEach [.Subscript (.Name x xp) (.Constant (.int (k : Int)) c cp) tp] X.env).map (·.2) = [assign (.Subscript (.Name x xp) (.Constant (.int (k : Int)) c cp) tp) X.env] := by rfl) :
    MS X (.Assign [.Subscript (.Name x xp) (.Constant (.int (k : Int)) c cp) tp] e pos) (sBg j k m) :=
  PS.weak (ps_asg he (pg_sub hx pe_int set_list) hs hw h1) fun D σ H ⟨b, He, H0e, ρ, B, H0, s, q⟩ => by
    unfold sBg at q
    cases h1 : m ρ B with
    | bad => rw [h1] at q; exact q.elim
    | ok e1 B1 =>
      rw [h1, bind_ok] at q
      refine rdE_at s h1 fun v H01 H1 g1 s1 r1 => ?_
      by_cases hb : isBg ρ j = true
      · rw [if_pos hb] at q
        cases hi : intOf e1 with
        | none => rw [hi] at q; exact q.elim
        | some i =>
          rw [hi] at q
          obtain rfl := intOf_inv r1 hi
          cases hk : bagSet B1 i k with
          | none => simp [hk] at q; exact q.elim
          | some B2 =>
            simp [hk] at q
            obtain ⟨ok, hc, jj, hj, hset⟩ := bagSet_ok (b := b) s1.hr.ok hk
            have := q σ H01 _ g1.l0 (s1.bagS ok hc)
            exact ⟨_, s1.isBg hb, b.1, _, k, jj, rfl, rfl, s1.hr.bag.1, hj, by rw [hset]; exact this⟩
      · rw [if_neg hb] at q; exact q.elim
def rGetL (K : PySem.W.Frag) : V → V → Hp → VK → Prop := fun o i H Q => ∃ (p : Addr) (xs : List V) (k : Nat) (v : V), o = .ref p ∧ i = .int (k : Int) ∧ H p = some (.lst xs) ∧ xs[k]? = some v ∧ Q v H
theorem get_listM : PGet X (rGetL X.K) := by
  intro pins s σ H o i ov iv Q I ro ri h
  obtain ⟨p, xs, k, v, rfl, rfl, hp, hk, q⟩ := h
  cases ro
  obtain ⟨t, rfl⟩ := ri
  obtain ⟨its, r, pl, hz⟩ := I.list (show SqL X.K H p xs from .inl (.inl hp))
  obtain ⟨u, hu, ru⟩ := r.get hk
  have hlt : k < its.length := (List.getElem?_eq_some_iff.mp hu).1
  have := r.length
  have := line63
  exact PyProof.Rows.getItem_listL (k := (k : Int)) pl.isList (by omega) (by omega) (by simpa using hu) ⟨v, H, I, ru, q⟩
theorem ms_bgAdd {j k : Nat} {x : Str} {xp cp tp : Pos} {c} (hx : PE X (.Name x xp) (tVar j)) (he : ME X e m)
    (ha : ∀ ov iv new, augStore (.Constant (.int (k : Int)) c cp) ov iv new = (do holding [new, ov, iv] (setItem ov iv new); release [new, ov, iv] []; pure .next) := by intros; rfl) :
    MS X (.AugAssign (.Subscript (.Name x xp) (.Constant (.int (k : Int)) c cp) tp) .Add e pos) (sBgAdd j k m) :=
  PS.weak (ps_augS hx pe_int get_listM he ip_add set_list ha) fun D σ H ⟨b, He, H0e, ρ, B, H0, s, q⟩ => by
    unfold sBgAdd at q
    by_cases hb : isBg ρ j = true
    · rw [if_pos hb] at q
      cases hk : bagGet B k with
      | none => rw [hk] at q; exact q.elim
      | some ek =>
        rw [hk] at q
        cases hx : intOf ek with
        | none => simp [hx] at q; exact q.elim
        | some x0 =>
          simp only [Option.bind_some, hx] at q
          obtain ⟨v, hv, r⟩ := bag_at s hk
          obtain rfl := intOf_inv r hx
          have hv' : [V.int B.x0, V.int B.x1, V.int B.x2, V.ref b.2][k]? = some (V.int x0) := by
            match k, hv with
            | 0, hv => exact hv
            | 1, hv => exact hv
            | 2, hv => exact hv
            | 3, hv => exact hv
            | n + 4, hv => cases hk
          refine ⟨_, s.isBg hb, b.1, _, k, _, rfl, rfl, s.hr.bag.1, hv', ?_⟩
          cases h1 : m ρ B with
          | bad => rw [h1] at q; exact q.elim
          | ok e1 B1 =>
            rw [h1, bind_ok] at q
            refine rdE_at s h1 fun y H01 H1 g1 s1 r1 => ?_
            cases hi : intOf e1 with
            | none => rw [hi] at q; exact q.elim
            | some i =>
              rw [hi] at q
              obtain rfl := intOf_inv r1 hi
              cases hk2 : bagSet B1 (x0 + i) k with
              | none => simp [hk2] at q; exact q.elim
              | some B2 =>
                simp [hk2] at q
                obtain ⟨ok, hc, jj, hj, hset⟩ := bagSet_ok (b := b) s1.hr.ok hk2
                have := q σ H01 _ g1.l0 (s1.bagS ok hc)
                exact ⟨x0, i, rfl, rfl, b.1, _, k, jj, rfl, rfl, s1.hr.bag.1, hj, by rw [hset]; exact this⟩
    · rw [if_neg hb] at q; exact q.elim
end
end Mr
namespace Mr
open PySem PySem.Spec PyProof.Rows L2
variable [Wd]
/-! ### two names at once, what is new stays one's own -/
def sPar2 (i j : Nat) (m1 m2 : EM) : SM := fun ρ B => (m1 ρ B).bind fun e1 B1 => (m2 ρ B1).bind fun e2 B2 => if i < ρ.length ∧ j < ρ.length then .ok (.nx ((ρ.set i (some e1)).set j (some e2))) B2 else .bad
theorem VR.mono {b : Addr × Addr} {He H H0 H1 H01 : Hp} {v : V} {e : EV} (r : VR b He H0 H v e) (g : Gr b H H0 H1 H01) : VR b He H01 H1 v e := by
  cases e with
  | sh d => exact Dn.mono g.l0 _ _ r
  | bg => exact r
  | ow d =>
    obtain ⟨p, vs, ds, rfl, h1, h2, h3, h4, h5, h6⟩ := r
    exact ⟨p, vs, ds, rfl, h1, h2, g.n0 p _ h5 h3, h4, g.kp p _ h1 h5, h6.mono g.l0⟩
section
variable {X : Cx} {a c e : Expr} {es : List Expr} {m m1 m2 m3 : EM} {pos : Pos}
theorem par_rd {i j : Nat} (hij : i ≠ j) {D : Ends} {σ : L2.St} {H : Hp} (h : rdS (sPar2 i j m1 m2) D σ H) : tPar i j (tCons (rdE m1) (tCons (rdE m2) tNil)) D σ H := by
  obtain ⟨b, He, H0e, ρ, B, H0, s, q⟩ := h
  unfold sPar2 at q
  cases h1 : m1 ρ B with
  | bad => rw [h1] at q; exact q.elim
  | ok e1 B1 =>
    rw [h1, bind_ok] at q
    cases h2 : m2 ρ B1 with
    | bad => rw [h2] at q; exact q.elim
    | ok e2 B2 =>
      rw [h2, bind_ok] at q
      refine rdE_at s h1 fun v H01 H1 g1 s1 r1 => rdE_at s1 h2 fun y H02 H2 g2 s2 r2 => ?_
      by_cases hl : i < ρ.length ∧ j < ρ.length
      · rw [if_pos hl] at q
        have g12 := g1.trans g2
        have s3 : SR b He H0e (σ.set i (some v)) (ρ.set i (some e1)) B2 H02 H2 := s.setE g12 s2 hl.1 (r1.mono g2)
        have s4 : SR b He H0e ((σ.set i (some v)).set j (some y)) ((ρ.set i (some e1)).set j (some e2)) B2 H02 H2 := by
          refine s3.set (by simpa using hl.2) (r2.back (s.gr.trans g1)) fun d hd k d' hk ho hz => ?_
          subst hd
          obtain ⟨p, vs, ds, rfl, hb, hp1, _⟩ := r2
          by_cases hki : i = k
          · subst hki
            rw [List.getElem?_set_self hl.1] at ho
            rw [List.getElem?_set_self (by rw [s.len]; exact hl.1)] at hz
            cases ho; cases hz
            obtain ⟨p', vs', ds', e', _, _, _, _, hp', _⟩ := r1
            cases e'
            rw [hp1] at hp'; cases hp'
          · rw [List.getElem?_set_ne hki] at ho hz
            obtain ⟨⟨o, ho'⟩, _⟩ := s1.ownH ho hz
            rw [hp1] at ho'; cases ho'
        exact ⟨v, y, rfl, q _ H02 H2 g12.l0 s4⟩
      · rw [if_neg hl] at q; exact q.elim
theorem ms_par2 {i j : Nat} {x y : Str} {px py pt : Pos} {kt k2 pt2} (hc : X.calm = true) (hN : X.N.Nodup) (hi : X.N[i]? = some x) (hj : X.N[j]? = some y) (hij : i ≠ j)
    (hx : X.env.scope.names.lookup x = some .local) (hy : X.env.scope.names.lookup y = some .local) (ha : ME X a m1) (hb : ME X c m2)
    (hw : swappedStores [.Tuple [.Name x px, .Name y py] kt pt] (.Tuple [a, c] k2 pt2) X.env = pure (some [x, y]))
    (hs : swapsWithSole [.Tuple [.Name x px, .Name y py] kt pt] (.Tuple [a, c] k2 pt2) pos.line X.env = pure false := by rfl)
    (h1 : starEach [a, c] X.env = (false, eval a X.env) :: starEach [c] X.env := by rfl) (h2 : starEach [c] X.env = (false, eval c X.env) :: starEach [] X.env := by rfl) :
    MS X (.Assign [.Tuple [.Name x px, .Name y py] kt pt] (.Tuple [a, c] k2 pt2) pos) (sPar2 i j m1 m2) := PS.weak (ps_par hc hN hi hj hij hx hy (pa_cons ha (pa_cons hb pa_nil h2) h1) hw hs) fun _ _ _ => par_rd hij
/-! ### constants of the module, chains, signs in texts -/
theorem me_gs {x : Str} {z : Str} {t : Tok} (hg : Gl X x) (hm : X.mg x = some (.str z t)) (hd : (x == ("__debug__" : Str)) = false := by decide) : ME X (.Name x pos) (eC (.str z)) := me_c (fun _ => .str z) (pe_glob hg hm ⟨_, rfl⟩ hd)
theorem me_gi {x : Str} {z : Int} {t : Tok} (hg : Gl X x) (hm : X.mg x = some (.int z t)) (hd : (x == ("__debug__" : Str)) = false := by decide) : ME X (.Name x pos) (eC (.int z)) := me_c (fun _ => .int z) (pe_glob hg hm ⟨_, rfl⟩ hd)
def eChain (g g2 : PyData → PyData → Option EV) (m1 m2 m3 : EM) : EM := fun ρ B => (m1 ρ B).bind fun e1 B1 => (m2 ρ B1).bind fun e2 B2 => match e1.data.bind fun d1 => e2.data.bind fun d2 => (g d1 d2).bind boolOf with
  | some true => (m3 ρ B2).bind fun e3 B3 => liftO (e2.data.bind fun d2 => e3.data.bind fun d3 => g2 d2 d3) B3
  | some false => .ok (.sh (.bool false)) B2
  | none => .bad
theorem chain_rd {g g2 : PyData → PyData → Option EV} {σ : L2.St} {H : Hp} {Q : VK} (h : rdE (eChain g g2 m1 m2 m3) σ H Q) : tChain (rD2 g) (rD2 g2) (rdE m1) (rdE m2) (rdE m3) σ H Q := by
  obtain ⟨b, He, H0e, ρ, B, H0, s, q⟩ := h
  unfold eChain at q
  cases h1 : m1 ρ B with
  | bad => rw [h1] at q; exact q.elim
  | ok e1 B1 =>
    rw [h1, bind_ok] at q
    refine rdE_at s h1 fun v H01 H1 g1 s1 r1 => ?_
    cases h2 : m2 ρ B1 with
    | bad => rw [h2] at q; exact q.elim
    | ok e2 B2 =>
      rw [h2, bind_ok] at q
      cases hd1 : e1.data with
      | none => rw [hd1] at q; exact q.elim
      | some d1 =>
        obtain ⟨H02, gg2, s2, D1⟩ := s.data g1 s1 r1 hd1
        refine rdE_at s2 h2 fun y H03 H3 g3 s3 r3 => ?_
        cases hd2 : e2.data with
        | none => rw [hd1, hd2] at q; exact q.elim
        | some d2 =>
          obtain ⟨H04, g4, s4, D2⟩ := s2.data g3 s3 r3 hd2
          rw [hd1, hd2] at q
          simp only [Option.bind_some] at q
          cases hg : g d1 d2 with
          | none => rw [hg] at q; exact q.elim
          | some e =>
            rw [hg] at q
            simp only [Option.bind_some] at q
            cases hk : boolOf e with
            | none => rw [hk] at q; exact q.elim
            | some k =>
              rw [hk] at q
              refine ⟨H04, d1, d2, e, s4.hr.le, Dn.mono g4.l0 _ _ D1, D2, hg, fun z H5 n => ?_⟩
              obtain ⟨H05, g5, s5, r5⟩ := n.ok s4
              have gg := (gg2.trans g4).trans g5
              refine ⟨k, bool_inv r5 hk, ?_⟩
              cases k with
              | false =>
                have e0 : e = .sh (.bool false) := by
                  cases e with
                  | ow d => cases hk
                  | bg => cases hk
                  | sh d => cases d with
                    | bool k' => cases hk; rfl
                    | _ => cases hk
                exact q _ H05 H5 gg s5 (.bl false)
              | true =>
                show rdE m3 σ H5 _
                cases h3 : m3 ρ B2 with
                | bad => simp [h3] at q
                | ok e3 B3 =>
                  simp only [h3, bind_ok] at q
                  refine rdE_at s5 h3 fun z3 H06 H6 g6 s6 r6 => ?_
                  cases hd3 : e3.data with
                  | none => rw [hd3] at q; exact q.elim
                  | some d3 =>
                    obtain ⟨H07, g7, s7, D3⟩ := s5.data g6 s6 r6 hd3
                    rw [hd3] at q
                    cases hgg : g2 d2 d3 with
                    | none => simp [hgg] at q
                    | some ee =>
                      simp [hgg] at q
                      refine ⟨H07, d2, d3, ee, s7.hr.le, Dn.mono (g5.trans g7).l0 _ _ D2, D3, hgg, fun z8 H8 n8 => ?_⟩
                      obtain ⟨H08, g8, s8, r8⟩ := n8.ok s7
                      exact q z8 H08 H8 ((gg.trans g7).trans g8) s8 (r8.back (gg.trans g7))
theorem me_chain {op op' : CmpOp} {g g2 : PyData → PyData → Option EV} {d : Expr} (ho : OpR X (compareOp op) (rD2 g)) (ho' : OpR X (compareOp op') (rD2 g2)) (ha : ME X a m1) (hb : ME X c m2) (hc : ME X d m3)
    (hm : lastMarks [op, op'] [c, d] = false := by with_unfolding_all rfl) : ME X (.Compare a [op, op'] [c, d] pos) (eChain g g2 m1 m2 m3) := PE.weak (pe_chain ho ho' ha hb hc hm) fun _ _ _ => chain_rd
theorem mt_chain {op op' : CmpOp} {g g2 : PyData → PyData → Option EV} {d : Expr} (ho : OpR X (compareOp op) (rD2 g)) (ho' : OpR X (compareOp op') (rD2 g2)) (ha : ME X a m1) (hb : ME X c m2) (hc : ME X d m3)
    (hm : lastMarks [op, op'] [c, d] = false := by with_unfolding_all rfl) : MT X (.Compare a [op, op'] [c, d] pos) (tBool (eChain g g2 m1 m2 m3)) := PT.weak (pt_chain ho ho' ha hb hc hm) fun _ _ _ h => chain_rd (bool_rd h)
def inD (d : PyData) : PyData → Option Bool
  | .str z => match d with
    | .str ⟨⟨[c]⟩⟩ => some (decide (c ∈ z.cps.toList))
    | _ => none
  | .list ds => if okD d && okD (.list ds) then some (ds.any fun z => PyData.eqv z d) else none
  | .tuple ds => if okD d && okD (.tuple ds) then some (ds.any fun z => PyData.eqv z d) else none
  | _ => none
def gIn (d1 d2 : PyData) : Option EV := (inD d1 d2).map fun k => .sh (.bool k)
def gNotIn (d1 d2 : PyData) : Option EV := (inD d1 d2).map fun k => .sh (.bool (!k))
theorem in_core {neg : Bool} (hu : X.A.units + 64 < cLine) {pins : List (Addr × Obj)} {s : Shared} {σ : L2.St} {H H0 : Hp} {x y : V} {v u : Value} {Q : VK} {d1 d2 : PyData} {k : Bool} (I : Inv X pins σ H s) (rx : RelV x v) (ry : RelV y u) (l : Le H0 H) (r1 : Dn H0 x d1) (r2 : Dn H0 y d2)
    (hk : inD d1 d2 = some k) (q : Q (.bl (if neg then !k else k)) H) : wpAny (model X.prog X.w) X.A (compareOp (if neg then .NotIn else .In) v u) (EP X pins σ Q) X.xe s := by
  cases d2 with
  | str z =>
    simp only [inD] at hk
    split at hk
    · rename_i c
      cases hk; cases r1; cases r2
      cases neg with
      | true => exact op_notIn_sign pins s σ H _ _ v u Q I rx ry ⟨c, z, rfl, rfl, q⟩
      | false => exact op_in_sign pins s σ H _ _ v u Q I rx ry ⟨c, z, rfl, rfl, q⟩
    · cases hk
  | list ds =>
    simp only [inD] at hk
    split at hk
    · rename_i h
      cases hk
      obtain ⟨p1, p2, e1, e2⟩ := okD2 h
      obtain ⟨as, R1, _⟩ := Dn.reads I d1 x v (Dn.mono l _ _ r1) rx
      obtain ⟨bs, R2, _⟩ := Dn.reads I (.list ds) y u (Dn.mono l _ _ r2) ry
      simp only [PyData.depth] at e2
      have hm := Nat.min_le_right (PyData.depthAll ds) d1.depth
      cases neg with
      | true => exact SeqAt.notIn_list_data R2 R1 p2 p1 (by omega) ⟨.bl _, H, I, rfl, q⟩
      | false => exact SeqAt.in_list_data R2 R1 p2 p1 (by omega) ⟨.bl _, H, I, rfl, q⟩
    · cases hk
  | tuple ds =>
    simp only [inD] at hk
    split at hk
    · rename_i h
      cases hk
      obtain ⟨p1, p2, e1, e2⟩ := okD2 h
      obtain ⟨as, R1, _⟩ := Dn.reads I d1 x v (Dn.mono l _ _ r1) rx
      obtain ⟨bs, R2, _⟩ := Dn.reads I (.tuple ds) y u (Dn.mono l _ _ r2) ry
      have hm := Nat.min_le_right (PyData.depthAll ds) d1.depth
      cases neg with
      | true => exact SeqAt.notIn_tuple_data R2 R1 p2 p1 (by omega) ⟨.bl _, H, I, rfl, q⟩
      | false => exact SeqAt.in_tuple_data R2 R1 p2 p1 (by omega) ⟨.bl _, H, I, rfl, q⟩
    · cases hk
  | _ => cases hk
theorem op_inM (hu : X.A.units + 64 < cLine) : OpR X (compareOp .In) (rD2 gIn) := by
  intro pins s σ H x y v u Q I rx ry ⟨H0, d1, d2, e, l, r1, r2, hg, q⟩
  simp only [gIn, Option.map_eq_some_iff] at hg
  obtain ⟨k, hk, rfl⟩ := hg
  exact in_core (neg := false) hu I rx ry l r1 r2 hk (q _ _ nr_bl)
theorem op_notInM (hu : X.A.units + 64 < cLine) : OpR X (compareOp .NotIn) (rD2 gNotIn) := by
  intro pins s σ H x y v u Q I rx ry ⟨H0, d1, d2, e, l, r1, r2, hg, q⟩
  simp only [gNotIn, Option.map_eq_some_iff] at hg
  obtain ⟨k, hk, rfl⟩ := hg
  exact in_core (neg := true) hu I rx ry l r1 r2 hk (q _ _ nr_bl)
def gPow : PyData → PyData → Option EV
  | .int i, .int j => if 0 ≤ j ∧ j ≤ 1000000 ∧ i.natAbs < 2 ^ 64 then some (.sh (.int (i ^ j.toNat))) else none
  | _, _ => none
theorem op_powM : OpR X (binaryOp .Pow) (rD2 gPow) := by
  intro pins s σ H x y v u Q I rx ry ⟨H0, d1, d2, e, l, r1, r2, hg, q⟩
  cases d1 with
  | int i =>
    cases d2 with
    | int j =>
      simp only [gPow] at hg
      split at hg
      · cases hg; cases r1; cases r2; exact op_pow pins s σ H _ _ v u Q I rx ry ⟨i, j, rfl, rfl, by assumption, q _ _ nr_int⟩
      · cases hg
    | _ => cases hg
  | _ => cases hg
def gNeg : PyData → Option EV
  | .int i => some (.sh (.int (-i)))
  | _ => none
theorem un_negM : UnR X (unaryOp .USub) (rD1 gNeg) := by
  intro pins s σ H x v Q I rx ⟨H0, d1, e, l, r1, hg, q⟩
  cases d1 with
  | int i => cases hg; cases r1; exact un_neg pins s σ H _ v Q I rx ⟨i, rfl, q _ _ nr_int⟩
  | _ => cases hg
/-! ### list(x), tuple(x), {} -/
def gList : List PyData → Option EV
  | [.list ds] => some (.ow (.list ds))
  | [.tuple ds] => some (.ow (.list ds))
  | _ => none
theorem cr_listM : CallR X (.type "list") (rDA gList) := by
  intro pins s σ H vs us Q I r ⟨H0, ds, e, l, ra, hg, q⟩
  unfold gList at hg
  split at hg
  · cases hg
    obtain ⟨v, rfl, rv⟩ := ra.one
    obtain ⟨a1, zs, rfl, ha, al⟩ := rv.lst_inv
    exact call_list_of pins s σ H _ us Q I r ⟨a1, zs, rfl, .inl (.inl (.inl (l _ _ ha))), fun p hp => q _ _ ⟨p, _, _, rfl, rfl, hp, rfl, al⟩⟩
  · cases hg
    obtain ⟨v, rfl, rv⟩ := ra.one
    obtain ⟨a1, zs, rfl, ha, al⟩ := rv.tup_inv
    exact call_list_of pins s σ H _ us Q I r ⟨a1, zs, rfl, .inr (.inl (.inl (l _ _ ha))), fun p hp => q _ _ ⟨p, _, _, rfl, rfl, hp, rfl, al⟩⟩
  · cases hg
def gTuple : List PyData → Option EV
  | [.list ds] => some (.sh (.tuple ds))
  | [.tuple ds] => some (.sh (.tuple ds))
  | _ => none
theorem cr_tupleM : CallR X (.type "tuple") (rDA gTuple) := by
  intro pins s σ H vs us Q I r ⟨H0, ds, e, l, ra, hg, q⟩
  unfold gTuple at hg
  split at hg
  · cases hg
    obtain ⟨v, rfl, rv⟩ := ra.one
    obtain ⟨a1, zs, rfl, ha, al⟩ := rv.lst_inv
    exact call_tuple_of pins s σ H _ us Q I r ⟨a1, zs, rfl, .inl ⟨.inl (.inl (l _ _ ha)), fun p hp => q _ _ (.inr ⟨p, _, _, rfl, rfl, hp, rfl, al⟩)⟩⟩
  · cases hg
    obtain ⟨v, rfl, rv⟩ := ra.one
    have rv' := rv
    obtain ⟨a1, zs, rfl, ha, al⟩ := rv.tup_inv
    exact call_tuple_of pins s σ H _ us Q I r ⟨a1, zs, rfl, .inr ⟨.inl (.inl (l _ _ ha)), q _ _ (.inl ⟨rfl, rv'⟩)⟩⟩
  · cases hg
/-! ### an owned list: an item, a store, insert, pop -/
def eIxO (i : Nat) (m : EM) : EM := fun ρ B => (m ρ B).bind fun e B1 => match intOf e, ρ[i]? with
  | some k, some (some (.ow (.list ds))) => liftO ((atI ds k).map .sh) B1
  | _, _ => .bad
theorem me_ixO {i : Nat} {x : Str} {xp : Pos} (hx : PE X (.Name x xp) (tVar i)) (he : ME X e m) (hs : PlainIx e := by intro _ _; rfl) : ME X (.Subscript (.Name x xp) e pos) (eIxO i m) :=
  PE.weak (pe_ix ix_list hx he hs) fun σ H Q ⟨b, He, H0e, ρ, B, H0, s, q⟩ => by
    unfold eIxO at q
    cases h1 : m ρ B with
    | bad => rw [h1] at q; exact q.elim
    | ok e1 B1 =>
      rw [h1, bind_ok] at q
      cases hi : intOf e1 with
      | none => simp [hi] at q
      | some k =>
        simp only [hi] at q
        cases hρ : ρ[i]? with
        | none => simp [hρ] at q
        | some o =>
          simp only [hρ] at q
          cases o with
          | none => exact q.elim
          | some ev =>
            cases ev with
            | sh d => exact q.elim
            | bg => exact q.elim
            | ow d =>
              cases d with
              | list ds =>
                simp only at q
                cases hat : atI ds k with
                | none => rw [hat] at q; exact q.elim
                | some d =>
                  simp only [hat, Option.map_some, liftO_some] at q
                  obtain ⟨v, hv, p, vs, ds', rfl, nb, hpe, h0, e2, hH, al⟩ := s.slotL hρ
                  cases e2
                  refine ⟨_, hv, rdE_at s h1 fun y H01 H1 g1 s1 r1 => ?_⟩
                  obtain rfl := intOf_inv r1 hi
                  obtain ⟨z, hz, rz⟩ := (DnAll.mono g1.l0 _ _ al).at hat
                  exact ⟨p, vs, k, z, rfl, rfl, .inl (.inl (g1.kp _ _ nb hH)), hz, q z H01 H1 g1 s1 rz⟩
              | _ => exact q.elim
def sStO (i : Nat) (mi me : EM) : SM := fun ρ B => (me ρ B).bind fun e B1 => (mi ρ B1).bind fun ei B2 => match e.data, intOf ei, ρ[i]? with
  | some d, some k, some (some (.ow (.list ds))) => (match ixN ds.length k with
    | some j => .ok (.nx (ρ.set i (some (.ow (.list (ds.set j d)))))) B2
    | none => .bad)
  | _, _, _ => .bad
theorem DnAll.setD {H : Hp} : ∀ {vs : List V} {ds : List PyData} (j : Nat) {v : V} {d : PyData}, DnAll H vs ds → Dn H v d → DnAll H (vs.set j v) (ds.set j d)
  | [], _, _, _, _, h, _ => by cases h; exact .nil
  | _ :: vs, _, 0, _, _, h, r => by
    cases h with
    | cons a b => exact .cons r b
  | _ :: vs, _, j + 1, _, _, h, r => by
    cases h with
    | cons a b => exact .cons a (b.setD j r)
theorem ms_stO {i : Nat} {x : Str} {xp tp : Pos} {ix : Expr} {mi me : EM} (hx : PE X (.Name x xp) (tVar i)) (hi : ME X ix mi) (he : ME X e me)
    (ha : ∀ v, assign (.Subscript (.Name x xp) ix tp) X.env v = (do
      let ov ← holding [v] (eval (.Name x xp) X.env)
      let iv ← holding [v, ov] (eval ix X.env)
      standAt tp
      holding [v, ov, iv] (setItem ov iv v)
      release [v, ov, iv] []) := by intro _; rfl)
    (hs : swapsWithSole [.Subscript (.Name x xp) ix tp] e pos.line X.env = pure false := by rfl)
    (hw : swappedStores [.Subscript (.Name x xp) ix tp] e X.env = pure none := by rfl)
    (h1 : (assignEach [.Subscript (.Name x xp) ix tp] X.env).map (·.2) = [assign (.Subscript (.Name x xp) ix tp) X.env] := by rfl) :
    MS X (.Assign [.Subscript (.Name x xp) ix tp] e pos) (sStO i mi me) :=
  PS.weak (ps_asg he (pg_sub hx hi set_list ha) hs hw h1) fun D σ H ⟨b, He, H0e, ρ, B, H0, s, q⟩ => by
    unfold sStO at q
    cases h1 : me ρ B with
    | bad => rw [h1] at q; exact q.elim
    | ok e1 B1 =>
      rw [h1, bind_ok] at q
      refine rdE_at s h1 fun v H01 H1 g1 s1 r1 => ?_
      cases h2 : mi ρ B1 with
      | bad => rw [h2] at q; exact q.elim
      | ok e2 B2 =>
        rw [h2, bind_ok] at q
        cases hd : e1.data with
        | none => simp only [hd] at q; exact q.elim
        | some d =>
          obtain ⟨H02, g2, s2, D1⟩ := s.data g1 s1 r1 hd
          cases hk : intOf e2 with
          | none => simp [hd, hk] at q <;> exact q.elim
          | some k =>
            cases hρ : ρ[i]? with
            | none => simp [hd, hk, hρ] at q <;> exact q.elim
            | some o =>
              simp only [hd, hk, hρ] at q
              match o, hρ, q with
              | some (.ow (.list ds)), hρ, q =>
                simp only at q
                cases hj : ixN ds.length k with
                | none => rw [hj] at q; exact q.elim
                | some j =>
                  rw [hj] at q
                  obtain ⟨w, hw, _⟩ := s2.slot i _ hρ
                  refine ⟨w, hw, rdE_at s2 h2 fun y H03 H3 g3 s3 r3 => ?_⟩
                  obtain rfl := intOf_inv r3 hk
                  obtain ⟨w', hw', p, vs, ds', rfl, nb, hpe, h0, e4, hH, al⟩ := s3.slotL hρ
                  rw [hw] at hw'; cases hw'; cases e4
                  refine ⟨p, vs, k, j, rfl, rfl, hH, by rw [al.length]; exact hj, ?_⟩
                  exact q σ H03 _ (g2.trans g3).l0 (s3.updO hρ hw (al.setD j (Dn.mono g3.l0 _ _ D1)))
              | none, _, q => exact q.elim
              | some (.sh _), _, q => exact q.elim
              | some .bg, _, q => exact q.elim
              | some (.ow .none), _, q => exact q.elim
              | some (.ow (.bool _)), _, q => exact q.elim
              | some (.ow (.int _)), _, q => exact q.elim
              | some (.ow (.str _)), _, q => exact q.elim
              | some (.ow (.tuple _)), _, q => exact q.elim
              | some (.ow (.dict _)), _, q => exact q.elim

def insD {α : Type} (xs : List α) (k : Int) (x : α) : List α := xs.take k.toNat ++ [x] ++ xs.drop k.toNat
def sInsO (i : Nat) (mi me : EM) : SM := fun ρ B => (mi ρ B).bind fun ei B1 => (me ρ B1).bind fun e B2 => match intOf ei, e.data, ρ[i]? with
  | some k, some d, some (some (.ow (.list ds))) => if ds.length < sizeLine ∧ 0 ≤ k ∧ k < 2 ^ 63 then .ok (.nx (ρ.set i (some (.ow (.list (insD ds k d)))))) B2 else .bad
  | _, _, _ => .bad
theorem ow_cases (o : Option EV) : (∃ ds, o = some (.ow (.list ds))) ∨ ∀ ds, o ≠ some (.ow (.list ds)) := by
  match o with
  | some (.ow (.list ds)) => exact .inl ⟨ds, rfl⟩
  | none => exact .inr fun _ => nofun
  | some (.sh _) => exact .inr fun _ => nofun
  | some .bg => exact .inr fun _ => nofun
  | some (.ow .none) => exact .inr fun _ => nofun
  | some (.ow (.bool _)) => exact .inr fun _ => nofun
  | some (.ow (.int _)) => exact .inr fun _ => nofun
  | some (.ow (.str _)) => exact .inr fun _ => nofun
  | some (.ow (.tuple _)) => exact .inr fun _ => nofun
  | some (.ow (.dict _)) => exact .inr fun _ => nofun
theorem ms_insO {i : Nat} {x : Str} {xp apos cpos : Pos} {ix : Expr} {mi me : EM} (hx : PE X (.Name x xp) (tVar i)) (hi : ME X ix mi) (he : ME X e me)
    (hbase : attributeBase (.Name x xp) "insert" X.env (eval (.Name x xp) X.env) = eval (.Name x xp) X.env := by rfl)
    (hfew : ((backTo cpos (starEach [ix, e] X.env)).all (fun x => !x.1) && (backToKw cpos (keywordEach [] X.env)).all (fun x => x.1.isSome)
      && decide ([ix, e].length + ([] : List Keyword).length + (if ([] : List Keyword).isEmpty then 0 else 1) < 30)) = true := by rfl)
    (hline : (apos.endLine == cpos.line) = true := by rfl) (hs : starEach [ix, e] X.env = (false, eval ix X.env) :: starEach [e] X.env := by rfl) (hs2 : starEach [e] X.env = (false, eval e X.env) :: starEach [] X.env := by rfl) (hplain : (backTo cpos (starEach [e] X.env)).any (·.1) = false := by rfl)
    (hsw : swapsWith (.Call (.Attribute (.Name x xp) "insert" apos) [ix, e] [] cpos) none pos.line X.env = pure false := by rfl) :
    MS X (.Expr (.Call (.Attribute (.Name x xp) "insert" apos) [ix, e] [] cpos) pos) (sInsO i mi me) :=
  PS.weak (ps_expr (pe_bm PySem.F.plainAttrs_list PySem.F.slot_list_insert PySem.F.type_list_insert mt_insert hx (pa_cons hi (pa_cons he pa_nil hs2) hs) hbase hfew hline hs hplain) hsw) fun D σ H ⟨b, He, H0e, ρ, B, H0, s, q⟩ => by
    unfold sInsO at q
    cases h1 : mi ρ B with
    | bad => rw [h1] at q; exact q.elim
    | ok e1 B1 =>
      rw [h1, bind_ok] at q
      cases h2 : me ρ B1 with
      | bad => rw [h2] at q; exact q.elim
      | ok e2 B2 =>
        rw [h2, bind_ok] at q
        cases hk : intOf e1 with
        | none => simp [hk] at q <;> exact q.elim
        | some k =>
          cases hd : e2.data with
          | none => simp [hd, hk] at q <;> exact q.elim
          | some d =>
            cases hρ : ρ[i]? with
            | none => simp [hd, hk, hρ] at q <;> exact q.elim
            | some o =>
              rcases ow_cases o with ⟨ds, rfl⟩ | ho
              · simp only [hd, hk, hρ] at q
                by_cases hl : ds.length < sizeLine ∧ 0 ≤ k ∧ k < 2 ^ 63
                · rw [if_pos hl] at q
                  obtain ⟨w, hw, p, vs, ds', rfl, nb, hpe, h0, e4, hH, al⟩ := s.slotL hρ
                  cases e4
                  refine ⟨_, hw, .inl ⟨rfl, vs, .inl (.inl hH)⟩, rdE_at s h1 fun v H01 H1 g1 s1 r1 => rdE_at s1 h2 fun y H02 H2 g2 s2 r2 => ?_⟩
                  obtain rfl := intOf_inv r1 hk
                  obtain ⟨H03, g3, s3, D3⟩ := s1.data g2 s2 r2 hd
                  obtain ⟨w', hw', p', vs', ds'', e5, _, _, _, e6, hH', al'⟩ := s3.slotL hρ
                  rw [hw] at hw'; cases hw'; cases e5; cases e6
                  refine ⟨p, vs', k, y, rfl, rfl, hH', by rw [al'.length]; exact hl.1, hl.2.1, hl.2.2, ?_⟩
                  exact q σ H03 _ (g1.trans g3).l0 (s3.updO hρ hw (((al'.take _).append (.cons D3 .nil)).append (al'.drop _)))
                · rw [if_neg hl] at q; exact q.elim
              · exfalso
                revert q
                simp only [hd, hk, hρ]
                split
                · exact absurd (Option.some.inj ‹_›) (ho _)
                · exact fun z => z
def sPopO (i : Nat) (mi : EM) : SM := fun ρ B => (mi ρ B).bind fun ei B1 => match intOf ei, ρ[i]? with
  | some k, some (some (.ow (.list ds))) => if 0 ≤ k ∧ k < ds.length ∧ k < 2 ^ 63 then .ok (.nx (ρ.set i (some (.ow (.list (ds.eraseIdx k.toNat)))))) B1 else .bad
  | _, _ => .bad
theorem DnAll.erase {H : Hp} : ∀ {vs : List V} {ds : List PyData} (j : Nat), DnAll H vs ds → DnAll H (vs.eraseIdx j) (ds.eraseIdx j)
  | [], _, _, h => by cases h; exact .nil
  | _ :: vs, _, 0, h => by
    cases h with
    | cons a b => exact b
  | _ :: vs, _, j + 1, h => by
    cases h with
    | cons a b => exact .cons a (b.erase j)
theorem ms_popO {i : Nat} {x : Str} {xp apos cpos : Pos} {ix : Expr} {mi : EM} (hx : PE X (.Name x xp) (tVar i)) (hi : ME X ix mi)
    (hbase : attributeBase (.Name x xp) "pop" X.env (eval (.Name x xp) X.env) = eval (.Name x xp) X.env := by rfl)
    (hfew : ((backTo cpos (starEach [ix] X.env)).all (fun x => !x.1) && (backToKw cpos (keywordEach [] X.env)).all (fun x => x.1.isSome)
      && decide ([ix].length + ([] : List Keyword).length + (if ([] : List Keyword).isEmpty then 0 else 1) < 30)) = true := by rfl)
    (hline : (apos.endLine == cpos.line) = true := by rfl) (hs : starEach [ix] X.env = (false, eval ix X.env) :: starEach [] X.env := by rfl) (hplain : (backTo cpos (starEach [] X.env)).any (·.1) = false := by rfl)
    (hsw : swapsWith (.Call (.Attribute (.Name x xp) "pop" apos) [ix] [] cpos) none pos.line X.env = pure false := by rfl) :
    MS X (.Expr (.Call (.Attribute (.Name x xp) "pop" apos) [ix] [] cpos) pos) (sPopO i mi) :=
  PS.weak (ps_expr (pe_bm PySem.F.plainAttrs_list PySem.F.slot_list_pop PySem.F.type_list_pop mt_popAt hx (pa_cons hi pa_nil hs) hbase hfew hline hs hplain) hsw) fun D σ H ⟨b, He, H0e, ρ, B, H0, s, q⟩ => by
    unfold sPopO at q
    cases h1 : mi ρ B with
    | bad => rw [h1] at q; exact q.elim
    | ok e1 B1 =>
      rw [h1, bind_ok] at q
      cases hk : intOf e1 with
      | none => simp [hk] at q <;> exact q.elim
      | some k =>
        cases hρ : ρ[i]? with
        | none => simp [hk, hρ] at q <;> exact q.elim
        | some o =>
          rcases ow_cases o with ⟨ds, rfl⟩ | ho
          · simp only [hk, hρ] at q
            by_cases hl : 0 ≤ k ∧ k < ds.length ∧ k < 2 ^ 63
            · rw [if_pos hl] at q
              obtain ⟨w, hw, p, vs, ds', rfl, nb, hpe, h0, e4, hH, al⟩ := s.slotL hρ
              cases e4
              refine ⟨_, hw, .inl ⟨rfl, vs, .inl (.inl hH)⟩, rdE_at s h1 fun v H01 H1 g1 s1 r1 => ?_⟩
              obtain rfl := intOf_inv r1 hk
              obtain ⟨w', hw', p', vs', ds'', e5, _, _, _, e6, hH', al'⟩ := s1.slotL hρ
              rw [hw] at hw'; cases hw'; cases e5; cases e6
              have hlen := al'.length
              have hlt : k.toNat < vs'.length := by omega
              refine ⟨p, vs', k, k.toNat, vs'[k.toNat], rfl, rfl, hH', by omega, hl.2.2, ?_, List.getElem?_eq_getElem hlt, ?_⟩
              · unfold seqIndex?
                have a1 : ¬ k < 0 := by omega
                have a2 : k < (vs'.length : Int) := by omega
                simp [a1, hl.1, a2]
              · exact q σ H01 _ g1.l0 (s1.updO hρ hw (al'.erase _))
            · rw [if_neg hl] at q; exact q.elim
          · exfalso
            revert q
            simp only [hk, hρ]
            split
            · exact absurd (Option.some.inj ‹_›) (ho _)
            · exact fun z => z
/-! ### isinstance of two types; join -/
def tyN : PyData → String
  | .none => "NoneType"
  | .bool _ => "bool"
  | .int _ => "int"
  | .str _ => "str"
  | .list _ => "list"
  | .tuple _ => "tuple"
  | .dict _ => "dict"
def notDict : PyData → Bool
  | .dict _ => false
  | _ => true
theorem Dn.ty {K : PySem.W.Frag} {H : Hp} {v : V} {d : PyData} (h : Dn H v d) (nd : notDict d = true) : TyX K H v (.type (tyN d)) := by
  cases h with
  | non => exact .base .non
  | bl b => exact .base (.bl b)
  | int i => exact .base (.int i)
  | str x => exact .base (.str x)
  | lst e a => exact .base (.lst e)
  | tup e a => exact .base (.tup e)
  | dct n e a => exact .base (.dK e)
  | dcn e a => cases nd
def isLT (d : PyData) : Bool := d.isList || d.isTuple
def gIsLT (d : PyData) : Option EV := if notDict d then some (.sh (.bool (isLT d))) else none
theorem kit_lt (K : PySem.W.Frag) (d : PyData) : PySem.W.kitAny K (.type (tyN d)) [.type "list", .type "tuple"] = some (isLT d) := by
  have go : ∀ (t : String) (b1 b2 : Bool), kitB t "list" = some b1 → kitB t "tuple" = some b2 → PySem.W.kitAny K (.type t) [.type "list", .type "tuple"] = some (b1 || b2) := by
    intro t b1 b2 h1 h2
    refine kitAny_cons (kit_ty h1) (fun e => ?_) (fun e => by rw [e]; rfl)
    refine kitAny_cons (kit_ty h2) (fun e2 => ?_) (fun e2 => by rw [e, e2]; rfl)
    rw [e, e2]; rfl
  cases d with
  | none => exact go "NoneType" false false (by decide +kernel) (by decide +kernel)
  | bool b => exact go "bool" false false (by decide +kernel) (by decide +kernel)
  | int b => exact go "int" false false (by decide +kernel) (by decide +kernel)
  | str b => exact go "str" false false (by decide +kernel) (by decide +kernel)
  | list b => exact go "list" true false (by decide +kernel) (by decide +kernel)
  | tuple b => exact go "tuple" false true (by decide +kernel) (by decide +kernel)
  | dict b => exact go "dict" false false (by decide +kernel) (by decide +kernel)
theorem me_isiLT {m : EM} {p p1 p2 p3 : Pos} {kk} (hg : Gl X "isinstance") (hm : X.mg "isinstance" = none) (ha : ME X a m) (hg1 : Gl X "list") (hm1 : X.mg "list" = none) (hg2 : Gl X "tuple") (hm2 : X.mg "tuple" = none)
    (he : starEach [a, .Tuple [.Name "list" p1, .Name "tuple" p2] kk p3] X.env = (false, eval a X.env) :: starEach [.Tuple [.Name "list" p1, .Name "tuple" p2] kk p3] X.env := by rfl)
    (he2 : starEach [.Tuple [.Name "list" p1, .Name "tuple" p2] kk p3] X.env = (false, eval (.Tuple [.Name "list" p1, .Name "tuple" p2] kk p3) X.env) :: starEach [] X.env := by rfl)
    (hpl : (backTo pos (starEach [.Tuple [.Name "list" p1, .Name "tuple" p2] kk p3] X.env)).any (·.1) = false := by rfl)
    (h3 : starEach [.Name "list" p1, .Name "tuple" p2] X.env = (false, eval (.Name "list" p1) X.env) :: starEach [.Name "tuple" p2] X.env := by rfl)
    (h4 : starEach [.Name "tuple" p2] X.env = (false, eval (.Name "tuple" p2) X.env) :: starEach [] X.env := by rfl) :
    ME X (.Call (.Name "isinstance" p) [a, .Tuple [.Name "list" p1, .Name "tuple" p2] kk p3] [] pos) (eUn gIsLT m) :=
  PE.weak (pe_callB call_isiT hg hm PyProof.Rows.boot_isinstance (pa_cons ha (pa_cons (pe_tup (pa_cons (pe_bltn hg1 hm1 PyProof.Rows.boot_list (v := .ty "list") rfl) (pa_cons (pe_bltn hg2 hm2 PyProof.Rows.boot_tuple (v := .ty "tuple") rfl) pa_nil h4) h3)) pa_nil he2) he) (by decide) (by decide) he hpl) fun σ H Q ⟨b, He, H0e, ρ, B, H0, s, q⟩ => by
    unfold eUn at q
    cases h1 : m ρ B with
    | bad => rw [h1] at q; exact q.elim
    | ok e1 B1 =>
      rw [h1, bind_ok] at q
      refine rdE_at s h1 fun v H01 H1 g1 s1 r1 => ?_
      cases hd1 : e1.data with
      | none => rw [hd1] at q; exact q.elim
      | some d1 =>
        obtain ⟨H02, g2, s2, D1⟩ := s.data g1 s1 r1 hd1
        rw [hd1] at q
        cases nd : notDict d1 with
        | false => simp [gIsLT, nd, liftO] at q
        | true =>
        simp only [gIsLT, nd, if_true, Option.bind_some, liftO_some] at q
        refine ⟨by show 2 ≤ sizeLine; decide, fun t ht => ?_⟩
        obtain ⟨g3, s3⟩ := s2.fresh (o := .tup [V.ty "list", V.ty "tuple"]) ht
        exact ⟨v, t, _, _, _, isLT d1, rfl, upd_same, .cons (.ty _) (.cons (.ty _) .nil), Dn.ty (Dn.mono (s2.hr.le.trans (Le.new ht)) _ _ D1) nd, kit_lt _ _, q _ H02 _ (g2.trans g3) s3 (.bl _)⟩
def strsD : List PyData → Option (List Str)
  | [] => some []
  | .str b :: r => (strsD r).map (b :: ·)
  | _ => none
theorem DnAll.strsM {H : Hp} : ∀ {vs : List V} {ds : List PyData} {bs : List Str}, DnAll H vs ds → strsD ds = some bs → vs = bs.map V.str
  | [], _, _, h, e => by cases h; cases e; rfl
  | v :: vs, _, bs, h, e => by
    cases h with
    | cons a b =>
      rename_i d ds
      cases d with
      | str k =>
        simp only [strsD, Option.map_eq_some_iff] at e
        obtain ⟨bs', e1, rfl⟩ := e
        rw [a.str_inv, b.strsM e1]
        rfl
      | _ => cases e
def gJoin (z : Str) : PyData → Option EV
  | .list ds => (strsD ds).bind fun ys => if (ys.map (·.length)).sum + ys.length * z.length ≤ 16777216 then some (.sh (.str (Txt.join z ys))) else none
  | _ => none
theorem me_join {z : Str} {c0} {xp apos : Pos} (he : ME X e m)
    (hbase : attributeBase (.Constant (.str z) c0 xp) "join" X.env (eval (.Constant (.str z) c0 xp) X.env) = eval (.Constant (.str z) c0 xp) X.env := by rfl)
    (hfew : ((backTo pos (starEach [e] X.env)).all (fun x => !x.1) && (backToKw pos (keywordEach [] X.env)).all (fun x => x.1.isSome)
      && decide ([e].length + ([] : List Keyword).length + (if ([] : List Keyword).isEmpty then 0 else 1) < 30)) = true := by rfl)
    (hline : (apos.endLine == pos.line) = true := by rfl) (hs : starEach [e] X.env = (false, eval e X.env) :: starEach [] X.env := by rfl) (hplain : (backTo pos (starEach [] X.env)).any (·.1) = false := by rfl) :
    ME X (.Call (.Attribute (.Constant (.str z) c0 xp) "join" apos) [e] [] pos) (eUn (gJoin z) m) :=
  PE.weak (pe_bm PySem.F.plainAttrs_str PySem.F.slot_str_join PySem.F.type_str_join mt_join pe_str (pa_cons he pa_nil hs) hbase hfew hline hs hplain) fun σ H Q ⟨b, He, H0e, ρ, B, H0, s, q⟩ => by
    unfold eUn at q
    cases h1 : m ρ B with
    | bad => rw [h1] at q; exact q.elim
    | ok e1 B1 =>
      rw [h1, bind_ok] at q
      refine ⟨rfl, rdE_at s h1 fun v H01 H1 g1 s1 r1 => ?_⟩
      cases hd1 : e1.data with
      | none => rw [hd1] at q; exact q.elim
      | some d1 =>
        obtain ⟨H02, g2, s2, D1⟩ := s.data g1 s1 r1 hd1
        rw [hd1] at q
        cases d1 with
        | list ds =>
          simp only [Option.bind_some, gJoin] at q
          cases hy : strsD ds with
          | none => rw [hy] at q; exact q.elim
          | some ys =>
            simp only [hy, Option.bind_some] at q
            obtain ⟨a1, zs, rfl, ha, al⟩ := D1.lst_inv
            have := al.strsM hy
            subst this
            by_cases hl : (ys.map (·.length)).sum + ys.length * z.length ≤ 16777216
            · rw [if_pos hl] at q
              exact ⟨z, a1, ys, rfl, rfl, .inl (.inl (.inl (s2.hr.le _ _ ha))), hl, q _ H02 H1 g2 s2 (.str _)⟩
            · rw [if_neg hl] at q; exact q.elim
        | _ => exact q.elim
end
end Mr
namespace Mr
open PySem PySem.Spec PyProof.Rows L2
variable [Wd]
/-! ### d[k] = v -/
def putX (xs : List (NestedKey × Addr × V)) (k : NestedKey) (b : Addr) (v : V) : List (NestedKey × Addr × V) :=
  if xs.any (fun x => decide (x.1 = k)) then xs.map (fun x => if x.1 = k then (x.1, x.2.1, v) else x) else xs ++ [(k, b, v)]
theorem putX_len (xs : List (NestedKey × Addr × V)) (k : NestedKey) (b : Addr) (v : V) : (putX xs k b v).length ≤ xs.length + 1 := by
  unfold putX; split <;> simp
theorem XY.any {k : NestedKey} {xs : List (NestedKey × Addr × V)} {ys : List (NestedKey × Addr × Value)} (r : XY xs ys) : (atKey ys k).isSome = xs.any (fun x => decide (x.1 = k)) := by
  induction r with
  | nil => rfl
  | cons a b ih =>
    rename_i x y xs ys
    have e : x.1 = y.1 := a.1
    rw [List.any_cons]
    by_cases h : y.1 = k
    · unfold atKey; rw [List.find?_cons_of_pos (by simpa using h)]; simp [e, h]
    · rw [show atKey (y :: ys) k = atKey ys k by unfold atKey; rw [List.find?_cons_of_neg (by simpa using h)], ih]
      simp [e, h]
theorem XY.mapPut {k : NestedKey} {v : V} {u : Value} (ru : RelV v u) {xs : List (NestedKey × Addr × V)} {ys : List (NestedKey × Addr × Value)} (r : XY xs ys) : XY (xs.map (fun x => if x.1 = k then (x.1, x.2.1, v) else x)) (ys.map (putAt k u)) := by
  induction r with
  | nil => exact .nil
  | cons a b ih =>
    rename_i x y xs ys
    refine .cons ?_ ih
    have e : x.1 = y.1 := a.1
    unfold putAt
    dsimp only
    by_cases h : y.1 = k
    · rw [if_pos (e.trans h), if_pos h]; exact ⟨e, a.2.1, ru⟩
    · rw [if_neg (fun z => h (e.symm.trans z)), if_neg h]; exact a
theorem XY.snoc {xs : List (NestedKey × Addr × V)} {ys : List (NestedKey × Addr × Value)} (r : XY xs ys) {k : NestedKey} {b : Addr} {v : V} {u : Value} (ru : RelV v u) : XY (xs ++ [(k, b, v)]) (ys ++ [(k, b, u)]) := by
  induction r with
  | nil => exact .cons ⟨rfl, rfl, ru⟩ .nil
  | cons a _ ih => exact .cons a ih
theorem XY.put {xs : List (NestedKey × Addr × V)} {ys : List (NestedKey × Addr × Value)} (r : XY xs ys) {k : NestedKey} {b : Addr} {v : V} {u : Value} (ru : RelV v u) : XY (putX xs k b v) (storedH ys k b u) := by
  unfold putX storedH
  rw [r.any]
  split
  · exact r.mapPut ru
  · exact r.snoc ru
theorem XY.keys {xs : List (NestedKey × Addr × V)} {ys : List (NestedKey × Addr × Value)} (r : XY xs ys) : xs.map (·.1) = ys.map (·.1) := by
  induction r with
  | nil => rfl
  | cons a b ih => rw [List.map_cons, List.map_cons, ih, a.1]
theorem DnEn.any {H : Hp} {dk : PyData} {k : NestedKey} (hk : keyN dk = some k) : ∀ {xs : List (NestedKey × Addr × V)} {ds : List (PyData × PyData)}, DnEn H xs ds → (getDn ds dk).isSome = xs.any (fun x => decide (x.1 = k))
  | _, _, .nil => rfl
  | _, _, .cons (k := k') (p := p) (v := v) (xs := xs) (dk := dk') (d := d') (ds := ds) h1 hk' hd h2 h3 => by
    rw [List.any_cons]
    by_cases h : k' = k
    · unfold getDn; rw [List.find?_cons_of_pos (by simp [hk, hk', h])]; simp [h]
    · rw [show getDn ((dk', d') :: ds) dk = getDn ds dk by unfold getDn; rw [List.find?_cons_of_neg (by simp [hk, hk', h])], DnEn.any hk h3]
      simp [h]
theorem DnEn.mapPut {H : Hp} {dk d : PyData} {k : NestedKey} {v : V} (hk : keyN dk = some k) (hv : Dn H v d) : ∀ {xs : List (NestedKey × Addr × V)} {ds : List (PyData × PyData)}, DnEn H xs ds →
    DnEn H (xs.map (fun x => if x.1 = k then (x.1, x.2.1, v) else x)) (ds.map (fun e => if keyN e.1 = keyN dk then (e.1, d) else e))
  | _, _, .nil => .nil
  | _, _, .cons (k := k') (p := p) (v := v') (xs := xs) (dk := dk') (d := d') (ds := ds) h1 hk' hd h2 h3 => by
    rw [List.map_cons, List.map_cons]
    by_cases h : k' = k
    · rw [if_pos h, if_pos (by rw [hk, hk', h])]; exact .cons h1 hk' hd hv (DnEn.mapPut hk hv h3)
    · rw [if_neg h, if_neg (by rw [hk, hk']; intro z; exact h (Option.some.inj z))]; exact .cons h1 hk' hd h2 (DnEn.mapPut hk hv h3)
theorem DnEn.snoc {H : Hp} {dk d : PyData} {k : NestedKey} {b : Addr} {v : V} (hb : Dn H (.ref b) dk) (hk : keyN dk = some k) (h8 : k.depth ≤ 8) (hv : Dn H v d) : ∀ {xs : List (NestedKey × Addr × V)} {ds : List (PyData × PyData)}, DnEn H xs ds → DnEn H (xs ++ [(k, b, v)]) (ds ++ [(dk, d)])
  | _, _, .nil => .cons hb hk h8 hv .nil
  | _, _, .cons h1 hk' hd h2 h3 => .cons h1 hk' hd h2 (DnEn.snoc hb hk h8 hv h3)
theorem DnEn.put {H : Hp} {dk d : PyData} {k : NestedKey} {b : Addr} {v : V} (hb : Dn H (.ref b) dk) (hk : keyN dk = some k) (h8 : k.depth ≤ 8) (hv : Dn H v d) {xs : List (NestedKey × Addr × V)} {ds : List (PyData × PyData)} (en : DnEn H xs ds) : DnEn H (putX xs k b v) (putDn ds dk d) := by
  unfold putX putDn
  rw [en.any hk]
  split
  · exact en.mapPut hk hv
  · exact en.snoc hb hk h8 hv
theorem DnEn.length {H : Hp} : ∀ {xs : List (NestedKey × Addr × V)} {ds : List (PyData × PyData)}, DnEn H xs ds → xs.length = ds.length
  | _, _, .nil => rfl
  | _, _, .cons _ _ _ _ h3 => by rw [List.length_cons, List.length_cons, h3.length]
def rSetN : V → V → V → Hp → (Hp → Prop) → Prop := fun o i v H Q => ∃ a b u xs ds dk k, o = .ref a ∧ i = .ref b ∧ H a = some (DNo a u xs) ∧ DnEn H xs ds ∧ xs.length < sizeLine ∧ Dn H (.ref b) dk ∧ keyT dk = some k ∧ ∀ u', Q (upd H a (DNo a u' (putX xs k b v)))
section
variable {X : Cx}
theorem set_dn (hu : X.A.units + 9 < cLine) (hw : X.w = Wd.w) : PSet X rSetN := by
  intro pins s σ H o i v ov iv u Q I ro ri rv h
  obtain ⟨a, b, u0, xs, ds, dk, k, rfl, rfl, hH, en, hl, hb, hk, q⟩ := h
  obtain rfl : ov = Value.ref a := ro
  obtain rfl : iv = Value.ref b := ri
  obtain ⟨hk1, hk2⟩ := keyT_of hk
  obtain ⟨hz, hsys, ys, rxy, dd⟩ := dictN_at I hw hH en
  have hly : ys.length ≤ sizeLine := by rw [← Paired.length rxy]; exact hz
  refine wpAny_setItem_heap (knd := nestedKind X.prog X.w) (hsz := hly) (show X.A.units + 1 + 8 < cLine by omega) ⟨Dn.key I.hok dk _ _ k hb rfl hk1, hk2⟩ dd fun h' dd' hs => ?_
  obtain ⟨o', es, ep, ho, hex, hd, he, _, hn⟩ := dd'
  have rp := rxy.put (k := k) (b := b) rv
  refine ⟨_, ?_, q o'⟩
  refine d_write I (by rw [hH]; exact True.intro) hs ⟨o', ho⟩ ⟨⟨?_, hsys, by rw [rp.keys]; exact hn, es, ep, _, ho, hex, hd, rp, ?_⟩, ⟨o', ho⟩, ?_⟩
  · have := putX_len xs k b v; omega
  · rw [he]
    have e : (fun y : NestedKey × Addr × Value => (⟨y.1.hash Wd.w, .ref y.2.1, y.2.2⟩ : DictEntry)) = entryOfKey (nestedKind X.prog X.w) := by
      funext y
      show _ = (⟨y.1.hash X.w, .ref y.2.1, y.2.2⟩ : DictEntry)
      rw [hw]
    rw [e]
  · rintro h1 h2 ⟨z1, z2, z3, es1, ep1, ys1, z4, z5⟩ st
    exact ⟨z1, z2, z3, es1, ep1, ys1, st _ z4, z5⟩
/-! ### {}; d[k] = v; d.get(k, x), d an own dict -/
theorem dn_empty (h : Heap) (big : sysModules < h.objs.size) (P : Program) (w : World) (H : Hp) : ObjOk P w H (h.push { cls := .type "dict", data := .dict #[] }) h.objs.size (DNo h.objs.size { cls := .type "dict", data := .dict #[] } []) :=
  ⟨⟨Nat.zero_le _, by simpa using (Nat.ne_of_gt big), List.nodup_nil, #[], 0, [], Heap.get?_push_size _ rfl, ⟨rfl, rfl, rfl⟩, rfl, .nil, rfl⟩, ⟨_, Heap.get?_push_size _ rfl⟩, by
    rintro h1 h2 ⟨z1, z2, z3, es1, ep1, ys1, z4, z5⟩ st
    exact ⟨z1, z2, z3, es1, ep1, ys1, st _ z4, z5⟩⟩
theorem pe_dnewN {pos : Pos} : PE X (.Dict [] [] pos) (fun _ H Q => ∀ p, H p = none → Q (.ref p) (upd H p (DNo p { cls := .type "dict", data := .dict #[] } []))) := ⟨fun pins s σ H Q I h =>
  wpAny_Dict_empty ⟨.ref s.heap.objs.size, _, I.laid (a := s.heap.objs.size) (o := DNo s.heap.objs.size { cls := .type "dict", data := .dict #[] } []) (t' := s.toks) (fun _ _ q => Heap.get?_push_of_some _ q) (Nat.le_refl _) (dn_empty s.heap I.big _ _ _), rfl, h _ (I.hok.fresh (Nat.le_refl _))⟩⟩
theorem me_dict0 {pos : Pos} : ME X (.Dict [] [] pos) (eC (.dict [])) := PE.weak pe_dnewN fun σ H Q ⟨b, He, H0e, ρ, B, H0, s, q⟩ p hp => by
  obtain ⟨g, s1⟩ := s.share (o := DNo p { cls := .type "dict", data := .dict #[] } []) hp
  exact q _ _ _ g s1 (.dcn upd_same .nil)
def eDN0 : EM := fun _ B => .ok (.ow (.dict [])) B
theorem me_dictN {pos : Pos} : ME X (.Dict [] [] pos) eDN0 := PE.weak pe_dnewN fun σ H Q ⟨b, He, H0e, ρ, B, H0, s, q⟩ p hp => by
  have n0 : H0 p = none := s.hr.le.none hp
  obtain ⟨g, s1⟩ := s.fresh (o := DNo p { cls := .type "dict", data := .dict #[] } []) hp
  exact q _ _ _ g s1 ⟨p, _, (), rfl, s.notb hp, hp, n0, trivial, upd_same, .dct .nil⟩
def sDPut (i : Nat) (mk mv : EM) : SM := fun ρ B => (mv ρ B).bind fun ev B1 => (mk ρ B1).bind fun ek B2 => match ev.data, ek, ρ[i]? with
  | some d, .sh dk, some (some (.ow (.dict ds))) => if (keyT dk).isSome ∧ ds.length < sizeLine then .ok (.nx (ρ.set i (some (.ow (.dict (putDn ds dk d)))))) B2 else .bad
  | _, _, _ => .bad
theorem SR.slotD {b : Addr × Addr} {He H0e H0 H : Hp} {σ : L2.St} {ρ : Env} {B : Bag} (s : SR b He H0e σ ρ B H0 H) {i : Nat} {ds : List (PyData × PyData)} (h : ρ[i]? = some (some (.ow (.dict ds)))) : ∃ p u xs, σ[i]? = some (some (.ref p)) ∧ p ≠ b.1 ∧ He p = none ∧ H0 p = none ∧ H p = some (DNo p u xs) ∧ DnEn H0 xs ds := by
  obtain ⟨v, hv, p, o, _, rfl, h1, h2, h3, _, h5, h6⟩ := s.slot i _ h
  obtain ⟨u, xs, rfl, a⟩ := h6.dict
  exact ⟨p, u, xs, hv, h1, h2, h3, h5, a⟩
theorem ms_dput {i : Nat} {x : Str} {xp tp pos : Pos} {ix e : Expr} {mi me : EM} (hu : X.A.units + 9 < cLine) (hW : X.w = Wd.w) (hx : PE X (.Name x xp) (tVar i)) (hi : ME X ix mi) (he : ME X e me)
    (ha : ∀ v, assign (.Subscript (.Name x xp) ix tp) X.env v = (do
      let ov ← holding [v] (eval (.Name x xp) X.env)
      let iv ← holding [v, ov] (eval ix X.env)
      standAt tp
      holding [v, ov, iv] (setItem ov iv v)
      release [v, ov, iv] []) := by intro _; rfl)
    (hs : swapsWithSole [.Subscript (.Name x xp) ix tp] e pos.line X.env = pure false := by rfl)
    (hw : swappedStores [.Subscript (.Name x xp) ix tp] e X.env = pure none := by rfl)
    (h1 : (assignEach [.Subscript (.Name x xp) ix tp] X.env).map (·.2) = [assign (.Subscript (.Name x xp) ix tp) X.env] := by rfl) :
    MS X (.Assign [.Subscript (.Name x xp) ix tp] e pos) (sDPut i mi me) :=
  PS.weak (ps_asg he (pg_sub hx hi (set_dn hu hW) ha) hs hw h1) fun D σ H ⟨b, He, H0e, ρ, B, H0, s, q⟩ => by
    unfold sDPut at q
    cases h1 : me ρ B with
    | bad => rw [h1] at q; exact q.elim
    | ok e1 B1 =>
      rw [h1, bind_ok] at q
      refine rdE_at s h1 fun v H01 H1 g1 s1 r1 => ?_
      cases h2 : mi ρ B1 with
      | bad => rw [h2] at q; exact q.elim
      | ok e2 B2 =>
        rw [h2, bind_ok] at q
        split at q
        · rename_i _ _ _ d dk ds hd hρ
          split at q
          · rename_i hc
            obtain ⟨k, hk⟩ := Option.isSome_iff_exists.mp hc.1
            obtain ⟨H02, g2, s2, D1⟩ := s.data g1 s1 r1 hd
            obtain ⟨p, u, xs, hv, _⟩ := s2.slotD hρ
            refine ⟨_, hv, rdE_at s2 h2 fun y H03 H3 g3 s3 r3 => ?_⟩
            obtain ⟨p', u', xs', hv', nb, hpe, h0, hH, en⟩ := s3.slotD hρ
            rw [hv] at hv'; cases hv'
            have r3' : Dn H03 y dk := r3
            obtain ⟨kb, rfl⟩ := keyT_ref hk r3'
            obtain ⟨hk1, hk2⟩ := keyT_of hk
            refine ⟨p, kb, u', xs', ds, dk, k, rfl, rfl, hH, DnEn.mono s3.hr.le _ _ en, by rw [en.length]; exact hc.2, Dn.mono s3.hr.le _ _ r3', hk, fun u2 => ?_⟩
            exact q σ H03 _ (g2.trans g3).l0 (s3.updW hρ hv (.dct (en.put r3' hk1 hk2 (Dn.mono g3.l0 _ _ D1))))
          · exact q.elim
        · exact q.elim
end
end Mr
namespace Mr
open PySem PySem.Spec PyProof.Rows L2
variable [Wd]
/-! ### reading a dict -/
def keysT (ds : List (PyData × PyData)) : Bool := ds.all fun e => (keyT e.1).isSome
/-- the dict at a: what it holds is shared data -/
def DV (H0 H : Hp) (a : Addr) (ds : List (PyData × PyData)) : Prop := (∃ u xs, H a = some (DNo a u xs) ∧ DnEn H0 xs ds) ∨ ∃ kvs, kvs ≠ [] ∧ H a = some (.dK kvs) ∧ DnKv H0 kvs ds
theorem DV.sh {H0 H : Hp} {a : Addr} {ds : List (PyData × PyData)} (l : Le H0 H) (h : Dn H0 (.ref a) (.dict ds)) : DV H0 H a ds := by
  cases h with
  | dct n e b => exact .inr ⟨_, n, l _ _ e, b⟩
  | dcn e b => exact .inl ⟨_, _, l _ _ e, b⟩
theorem dnKv_nil {H : Hp} {kvs : List (Key × V)} {ds : List (PyData × PyData)} (h : DnKv H kvs ds) (hk : keysT ds = true) : kvs = [] ∧ ds = [] := by
  cases h with
  | nil => exact ⟨rfl, rfl⟩
  | cons a b =>
    rename_i k _ _ _ _
    simp only [keysT, List.all_cons, Bool.and_eq_true] at hk
    cases k <;> simp [keyD, keyT] at hk
section
variable {X : Cx} {pins : List (Addr × Obj)} {σ : L2.St} {H H0 : Hp} {s : Shared}
theorem dictV_at (I : Inv X pins σ H s) (hw : X.w = Wd.w) (l : Le H0 H) {a : Addr} {ds : List (PyData × PyData)} (h : DV H0 H a ds) (hk : keysT ds = true) :
    ds.length ≤ sizeLine ∧ (a == sysModules) = false ∧ ∃ ys, s.heap.DictOfH (nestedKind X.prog X.w) a ys ∧ ys.length = ds.length ∧
      ∀ {k : NestedKey} {dk : PyData}, keyN dk = some k → (atKey ys k = none ∧ getDn ds dk = none) ∨ ∃ p d v, atKey ys k = some p ∧ getDn ds dk = some d ∧ RelV v p.2 ∧ Dn H0 v d := by
  rcases h with ⟨u, xs, hH, en⟩ | ⟨kvs, hn0, hH, kv⟩
  · obtain ⟨hz, hsys, ys, rxy, dd⟩ := dictN_at I hw hH (DnEn.mono l _ _ en)
    exact ⟨by rw [← en.length]; exact hz, hsys, ys, dd, by rw [← Paired.length rxy, en.length], fun hk => en_at hk en rxy⟩
  · exact absurd (dnKv_nil kv hk).1 hn0
/-- d.get(k, x) -/
def tNGet (to te tf : TE) : TE := fun σ H Q => to σ H fun x H1 => ∃ a H01 ds1, x = .ref a ∧ Le H01 H1 ∧ DV H01 H1 a ds1 ∧ keysT ds1 = true ∧ te σ H1 fun y H2 => tf σ H2 fun z H3 => ∃ b H0 ds dk k, y = .ref b ∧ Le H0 H3 ∧ DV H0 H3 a ds ∧ keysT ds = true ∧ Dn H0 (.ref b) dk ∧ keyT dk = some k ∧
  ∀ v, (getDn ds dk = none → v = z) → (∀ d, getDn ds dk = some d → Dn H0 v d) → Q v H3
theorem pe_ngetN {o e f : Expr} {apos cpos : Pos} {to te tf : TE} (hu : X.A.units + 9 < cLine) (hw : X.w = Wd.w) (ho : PE X o to) (he : PE X e te) (hf : PE X f tf) (m : M2 X o "get" apos e f cpos) : PE X (.Call (.Attribute o "get" apos) [e, f] [] cpos) (tNGet to te tf) := by
  refine ⟨fun pins s σ H Q I h => ?_⟩
  refine wpAny_Call_method m.base m.few m.line PySem.F.plainAttrs_dict PySem.F.slot_dict_get PySem.F.type_dict_get (thn (ho.run pins s σ H _ I h) fun u s1 ⟨x, H1, I1, rx, a, H01, ds1, ex, l1, d1, k1, q1⟩ => ?_)
  subst ex
  obtain rfl : u = Value.ref a := rx
  obtain ⟨_, _, ys1, dd1, _⟩ := dictV_at I1 hw l1 d1 k1
  refine ⟨dd1.typeIs, fun b q => ?_, ?_⟩
  · cases q
    obtain ⟨ob, _, _, h1, h2, _⟩ := dd1
    exact ⟨ob, h1, h2.2.1⟩
  rw [m.trees]
  refine Calls.callWith_builtin rfl (Calls.evalArgs_plain (Calls.spliced_cons (thn (he.run pins s1 σ H1 _ I1 q1) fun iv s2 ⟨y, H2, I2, ry, q2⟩ =>
    Calls.spliced_cons (thn (hf.run pins s2 σ H2 _ I2 q2) fun fv s3 ⟨z, H3, I3, rz, b, H0, ds, dk, k, ey, l3, dv, hks, hb, hk, q3⟩ => Calls.spliced_nil ?_))))
  subst ey
  obtain rfl : iv = Value.ref b := ry
  obtain ⟨hk1, hk2⟩ := keyT_of hk
  obtain ⟨hz, hsys, ys, dd, hl, at'⟩ := dictV_at I3 hw l3 dv hks
  refine call_meetsIn PySem.F.slot_dict_get dd.typeIs PySem.F.entry_dict_get (PySem.F.args_dict_get_3 _ _ _) (meetsH_dict_get_default (nestedKind X.prog X.w) a b hsys fv) ⟨show X.A.units + 1 + 8 < cLine by omega, k, ys, ⟨Dn.key I3.hok dk _ _ k (Dn.mono l3 _ _ hb) rfl hk1, hk2⟩, dd, ?_⟩
  rcases at' hk1 with ⟨a1, a2⟩ | ⟨p, d, v, a1, a2, a3, a4⟩
  · rw [a1]
    exact ⟨z, H3, I3.tok _, rz, q3 z (fun _ => rfl) (fun d hd => by rw [a2] at hd; cases hd)⟩
  · rw [a1]
    exact ⟨v, H3, I3.tok _, a3, q3 v (fun hn => by rw [a2] at hn; cases hn) (fun d' hd => by rw [a2] at hd; cases hd; exact a4)⟩
end
/-- the dict that slot i holds -/
def dsOf (ρ : Env) (i : Nat) : Option (List (PyData × PyData)) := match ρ[i]? with
  | some (some (.ow (.dict ds))) => some ds
  | some (some (.sh (.dict ds))) => some ds
  | _ => none
theorem SR.dv {b : Addr × Addr} {He H0e H0 H : Hp} {σ : L2.St} {ρ : Env} {B : Bag} (s : SR b He H0e σ ρ B H0 H) {i : Nat} {ds : List (PyData × PyData)} (h : dsOf ρ i = some ds) : ∃ a, σ[i]? = some (some (.ref a)) ∧ DV H0 H a ds := by
  unfold dsOf at h
  split at h
  · rename_i hρ
    cases h
    obtain ⟨p, u, xs, hv, _, _, _, hH, en⟩ := s.slotD hρ
    exact ⟨p, hv, .inl ⟨u, xs, hH, en⟩⟩
  · rename_i hρ
    cases h
    obtain ⟨v, hv, r⟩ := s.slot i _ hρ
    have r' : Dn H0 v (.dict ds) := r
    cases r' with
    | dct n e a => exact ⟨_, hv, .inr ⟨_, n, s.hr.le _ _ e, a⟩⟩
    | dcn e a => exact ⟨_, hv, .inl ⟨_, _, s.hr.le _ _ e, a⟩⟩
  · cases h
def eDGetV (i : Nat) (mk mf : EM) : EM := fun ρ B => (mk ρ B).bind fun ek B1 => (mf ρ B1).bind fun ef B2 => match dsOf ρ i, ek, ef with
  | some ds, .sh dk, .sh df => if (keyT dk).isSome ∧ keysT ds = true then .ok (.sh ((getDn ds dk).getD df)) B2 else .bad
  | _, _, _ => .bad
section
variable {X : Cx}
theorem me_dgetV {i : Nat} {x : Str} {xp apos cpos : Pos} {e f : Expr} {mk mf : EM} (hu : X.A.units + 9 < cLine) (hw : X.w = Wd.w) (hx : PE X (.Name x xp) (tVar i)) (he : ME X e mk) (hf : ME X f mf)
    (hbase : attributeBase (.Name x xp) "get" X.env (eval (.Name x xp) X.env) = eval (.Name x xp) X.env := by rfl)
    (hfew : ((backTo cpos (starEach [e, f] X.env)).all (fun x => !x.1) && (backToKw cpos (keywordEach [] X.env)).all (fun x => x.1.isSome)
      && decide (([e, f] : List Expr).length + ([] : List Keyword).length + (if ([] : List Keyword).isEmpty then 0 else 1) < 30)) = true := by rfl)
    (hline : (apos.endLine == cpos.line) = true := by rfl) (htr : backTo cpos (starEach [e, f] X.env) = [(false, eval e X.env), (false, eval f X.env)] := by rfl) :
    ME X (.Call (.Attribute (.Name x xp) "get" apos) [e, f] [] cpos) (eDGetV i mk mf) :=
  PE.weak (pe_ngetN hu hw hx he hf ⟨hbase, hfew, hline, htr⟩) fun σ H Q ⟨b, He, H0e, ρ, B, H0, s, q⟩ => by
    unfold eDGetV at q
    cases h1 : mk ρ B with
    | bad => rw [h1] at q; exact q.elim
    | ok e1 B1 =>
      rw [h1, bind_ok] at q
      cases h2 : mf ρ B1 with
      | bad => rw [h2] at q; exact q.elim
      | ok e2 B2 =>
        rw [h2, bind_ok] at q
        cases hd : dsOf ρ i with
        | none => simp only [hd] at q
        | some ds =>
          rw [hd] at q
          match e1, e2, h1, h2, q with
          | .ow _, _, _, _, q => exact q.elim
          | .bg, _, _, _, q => exact q.elim
          | .sh _, .ow _, _, _, q => exact q.elim
          | .sh _, .bg, _, _, q => exact q.elim
          | .sh dk, .sh df, h1, h2, q =>
            by_cases hc : (keyT dk).isSome = true ∧ keysT ds = true
            · simp only [if_pos hc] at q
              obtain ⟨k, hk⟩ := Option.isSome_iff_exists.mp hc.1
              obtain ⟨a, hv, dv⟩ := s.dv hd
              refine ⟨_, hv, a, H0, ds, rfl, s.hr.le, dv, hc.2, rdE_at s h1 fun y H01 H1 g1 s1 r1 => rdE_at s1 h2 fun z H02 H2 g2 s2 r2 => ?_⟩
              have r1' : Dn H01 y dk := r1
              obtain ⟨kb, rfl⟩ := keyT_ref hk r1'
              obtain ⟨a', hv', dv'⟩ := s2.dv hd
              rw [hv] at hv'; cases hv'
              refine ⟨kb, H02, ds, dk, k, rfl, s2.hr.le, dv', hc.2, Dn.mono g2.l0 _ _ r1', hk, fun v hn hs => ?_⟩
              refine q v H02 H2 (g1.trans g2) s2 ?_
              cases hg : getDn ds dk with
              | none => rw [hn hg]; exact r2
              | some d => exact hs d hg
            · simp only [if_neg hc] at q
end
end Mr
namespace Mr
open PySem PySem.Spec PyProof.Rows L2
variable [Wd]
/-! ### walks over a dict whose keys are tuples -/
section
variable {X : Cx} {pins : List (Addr × Obj)} {σ : L2.St} {H : Hp} {s : Shared} {d : Addr} {o : Obj} {xs : List (NestedKey × Addr × V)}
theorem xy_at {xs : List (NestedKey × Addr × V)} {ys : List (NestedKey × Addr × Value)} (r : XY xs ys) {i : Nat} {x : NestedKey × Addr × V} (h : xs[i]? = some x) : ∃ y, ys[i]? = some y ∧ x.2.1 = y.2.1 ∧ RelV x.2.2 y.2.2 := by
  obtain ⟨y, hy, z⟩ := paired_get r h
  exact ⟨y, hy, z.2⟩
theorem dnAt (I : Inv X pins σ H s) (h : H d = some (DNo d o xs)) :
    (d == sysModules) = false ∧ s.heap.get? d = some o ∧ o.ExactDict ∧ ∃ (es : Array DictEntry) (ep : Nat), o.data = .dict es ep ∧ es.size = xs.length ∧
      ∀ (i : Nat) (k : NestedKey) (p : Addr) (v : V), xs[i]? = some (k, p, v) → ∃ en : DictEntry, es[i]? = some en ∧ en.key = .ref p ∧ RelV v en.val := by
  obtain ⟨⟨hz, hsys, hnd, es, ep, ys, ho, hex, hd, rv, he⟩, _⟩ := I.hok _ _ h
  refine ⟨hsys, ho, hex, es, ep, hd, ?_, fun i k p v e => ?_⟩
  · rw [← Array.length_toList, he, List.length_map, Paired.length rv]
  · obtain ⟨y, hy, e1, e2⟩ := xy_at rv e
    refine ⟨⟨y.1.hash Wd.w, .ref y.2.1, y.2.2⟩, ?_, ?_, e2⟩
    · rw [← Array.getElem?_toList, he, List.getElem?_map, hy]; rfl
    · show Value.ref y.2.1 = _
      rw [← e1]
end
/-- the keys: each key's own tuple -/
def ItkN (d : Addr) (o : Obj) (xs : List (NestedKey × Addr × V)) : It :=
  ⟨fun i H => H d = some (DNo d o xs) ∧ i < xs.length, fun i H x H' => H' = H ∧ ∃ k p v, xs[i]? = some (k, p, v) ∧ x = .ref p, fun i H => H d = some (DNo d o xs) ∧ xs.length ≤ i⟩
/-- the pairs, each a new tuple -/
def ItiN (d : Addr) (o : Obj) (xs : List (NestedKey × Addr × V)) : It :=
  ⟨fun i H => H d = some (DNo d o xs) ∧ i < xs.length, fun i H x H' => ∃ T k p v, xs[i]? = some (k, p, v) ∧ x = .ref T ∧ H T = none ∧ H' = upd H T (.tup [.ref p, v]), fun i H => H d = some (DNo d o xs) ∧ xs.length ≤ i⟩
section
variable {P : Program} {w : World} {K : PySem.W.Frag} {tg : Expr} {d : Addr} {o : Obj} {es : Array DictEntry} {ep : Nat} {xs : List (NestedKey × Addr × V)}
theorem turn_keysN (it : Addr) (hod : o.data = .dict es ep) : Turn P w K tg (ItkN d o xs) [it] it (fun i h => h.IsKeyIter it d i xs.length ep) where
  mem := by simp
  obj := fun i h st b hb => by
    have e : b = it := by simpa using hb
    subst e
    obtain ⟨oi, e, c, dd⟩ := st
    exact ⟨oi, e, fun v z => by rw [dd] at z; cases z⟩
  keep := fun i h h' st k => st.at fun oi e => k it (by simp) oi e
  item := by
    intro X hP hw hK hc i pins s σ H E I hf st hg
    subst hP hw hK
    obtain ⟨hd, hi⟩ := hg
    obtain ⟨f0, f1, f2, f3, f4, f5⟩ := hf it (by simp)
    obtain ⟨hs, hgd, hx, es', ep', hdt, hsz, ent⟩ := dnAt I hd
    obtain ⟨rfl, rfl⟩ := dict_ep hod hdt
    obtain ⟨⟨k, p, v⟩, hkv⟩ : ∃ p, xs[i]? = some p := ⟨xs[i], List.getElem?_eq_getElem hi⟩
    obtain ⟨en, hen, hkey, _⟩ := ent i k p v hkv
    refine next_key_item st hgd hdt hsz hen fun h' st' sb => ?_
    have I1 : Inv X pins σ H { s with heap := h' } := I.turned (t' := s.toks) (fun b ob hb e => (sb.2 b hb).trans e) f0 f1 f3 f4 f5
    obtain ⟨oi, e, c, dd⟩ := id st'
    exact ⟨en.key, rfl, go_of (s := { s with heap := h' }) e c dd (by decide) ⟨.ref p, H, I1, hkey, ⟨rfl, k, p, v, hkv, rfl⟩, st', fun b hb => (hf b hb).1⟩⟩
  done := by
    intro X hP hw hK hc i pins s σ H E I hf st hg
    subst hP hw hK
    obtain ⟨hd, hi⟩ := hg
    obtain ⟨f0, f1, f2, f3, f4, f5⟩ := hf it (by simp)
    obtain ⟨hs, hgd, hx, es', ep', hdt, hsz, ent⟩ := dnAt I hd
    obtain ⟨rfl, rfl⟩ := dict_ep hod hdt
    exact next_key_end (I.ok.hd hc) st hgd hdt hsz hi fun h' eb => ⟨rfl, I.turned (t' := s.toks) (fun b ob hb e => eb b ob hb e) f0 f1 f3 f4 f5⟩
  self := fun A i s Q E st h => by
    refine wpAny_pyIter_slot st.typeIs F.slot_dict_keyiterator_iter (wpAny_call_entry F.slot_dict_keyiterator_iter st.typeIs F.entry_dict_keyiterator_iter ?_ (F.args_dict_keyiterator_iter_1 _))
    show wpAny _ _ (ret (.ref it)) _ _ s
    exact wpAny_pure ⟨_, rfl, "dict_keyiterator", _, st.typeIs, F.slot_dict_keyiterator_next.lookup, h⟩
theorem turn_itemsN {elts : List Expr} {kk : Nat} {tpos : Pos} (it : Addr) (hod : o.data = .dict es ep) :
    Turn P w K (.Tuple elts kk tpos) (ItiN d o xs) [it] it (fun i h => ∃ ok ov, IsItemIter h it d i xs.length ep ok ov) where
  mem := by simp
  obj := fun i h st b hb => by
    have e : b = it := by simpa using hb
    subst e
    obtain ⟨ok, ov, e⟩ := st
    exact ⟨_, e, fun v z => nomatch z⟩
  keep := fun i h h' st k => let ⟨ok, ov, e⟩ := st; ⟨ok, ov, k it (by simp) _ e⟩
  item := by
    intro X hP hw hK hc i pins s σ H E I hf st hg
    subst hP hw hK
    obtain ⟨hd, hi⟩ := hg
    obtain ⟨hs, hgd, hx, es', ep', hdt, hsz, ent⟩ := dnAt I hd
    obtain ⟨rfl, rfl⟩ := dict_ep hod hdt
    obtain ⟨⟨k, p, v⟩, hkv⟩ : ∃ p, xs[i]? = some p := ⟨xs[i], List.getElem?_eq_getElem hi⟩
    obtain ⟨en, hen, hkey, hval⟩ := ent i k p v hkv
    obtain ⟨ok, ov, he⟩ := st
    rw [← hsz] at he
    have hlt : it < s.heap.objs.size := Heap.lt_size he
    have hi' : i < es'.size := by rw [hsz]; exact hi
    have een : es'[i] = en := by
      rw [Array.getElem?_eq_getElem hi'] at hen
      exact Option.some.inj hen
    refine DT.nextI he ⟨o, hgd, hx, hdt⟩ hi' fun h' ho hT hz hk => ?_
    rw [een] at ho hT
    refine ⟨_, rfl, wpAny_letOwnedTupleGo_items (s := { s with heap := h' }) ho fun h'' he' sb => ?_⟩
    have hT2 : h''.get? s.heap.objs.size = some { cls := .type "tuple", data := .seq #[en.key, en.val] } := (sb.2 _ (Nat.ne_of_gt hlt)).trans hT
    have new : ObjOk X.prog X.w (upd H s.heap.objs.size (.tup [.ref p, v])) h'' s.heap.objs.size (.tup [.ref p, v]) :=
      ⟨by show 2 ≤ sizeLine; decide, [en.key, en.val], .cons hkey (.cons hval .nil), ⟨_, hT2, rfl, _, rfl⟩⟩
    have I1 : Inv X pins σ (upd H s.heap.objs.size (.tup [.ref p, v])) { s with heap := h'' } :=
      I.turnedNew (t' := s.toks) (ch := [it]) (fun b ob hb e => (sb.2 b (by simpa using hb)).trans (hk b ob (by simpa using hb) e)) hf (Nat.le_refl _) new
    refine ⟨.ref s.heap.objs.size, _, I1, rfl, ⟨_, k, p, v, hkv, rfl, I.hok.fresh (Nat.le_refl _), rfl⟩, ⟨en.key, en.val, ?_⟩, fun b hb => ?_⟩
    · rw [← hsz]; exact he'
    · have e : b = it := by simpa using hb
      rw [e, upd_ne (Nat.ne_of_lt hlt)]
      exact (hf it (by simp)).1
  done := by
    intro X hP hw hK hc i pins s σ H E I hf st hg
    subst hP hw hK
    obtain ⟨hd, hi⟩ := hg
    obtain ⟨f0, f1, f2, f3, f4, f5⟩ := hf it (by simp)
    obtain ⟨hs, hgd, hx, es', ep', hdt, hsz, ent⟩ := dnAt I hd
    obtain ⟨rfl, rfl⟩ := dict_ep hod hdt
    obtain ⟨ok, ov, he⟩ := st
    rw [← hsz] at he
    exact DT.endI (I.ok.hd hc) he ⟨o, hgd, hx, hdt⟩ (by rw [hsz]; exact hi) fun h' eb => ⟨rfl, I.turned (t' := s.toks) (fun b ob hb e => eb b ob hb e) f0 f1 f3 f4 f5⟩
  self := fun A i s Q E st h => let ⟨_, _, e⟩ := st; PySem.W.kcp_self e h
end
/-! ### for k in d; for k, v in d.items() -/
def iKeysN (td : TE) : TI := fun σ H R => td σ H fun x H1 => ∃ d o xs, x = .ref d ∧ H1 d = some (DNo d o xs) ∧ R (ItkN d o xs) H1
def iItemsN (td : TE) : TI := fun σ H R => td σ H fun x H1 => ∃ d o xs, x = .ref d ∧ H1 d = some (DNo d o xs) ∧ R (ItiN d o xs) H1
section
variable {X : Cx} {tg e : Expr} {td : TE} {apos cpos : Pos}
theorem pi_keysN (he : PE X e td) : PI X tg e (iKeysN td) := by
  refine ⟨fun pins s σ H R I h => ?_⟩
  refine thn (he.run pins s σ H _ I h) fun u s1 ⟨x, H1, I1, rx, d, o, xs, ex, hd, q⟩ => ?_
  subst ex
  obtain rfl : u = Value.ref d := rx
  obtain ⟨hs, hgd, hx, es, ep, hdt, hsz, ent⟩ := dnAt I1 hd
  refine iter_keys hs hgd hx hdt (pi_one (tk := s1.toks) I1 _ (turn_keysN _ hdt) ⟨_, Heap.get?_push_size _ rfl, rfl, ?_⟩ q)
  rw [hsz] <;> rfl
theorem pi_itemsN {elts : List Expr} {kk : Nat} {tpos : Pos} (he : PE X e td) (hbase : attributeBase e "items" X.env (eval e X.env) = eval e X.env := by rfl) (hline : (apos.endLine == cpos.line) = true := by rfl) :
    PI X (.Tuple elts kk tpos) (.Call (.Attribute e "items" apos) [] [] cpos) (iItemsN td) := by
  refine ⟨fun pins s σ H R I h => ?_⟩
  refine wpAny_Call_method (T := "dict") (id := "dict.items") hbase rfl hline F.plainAttrs_dict F.slot_dict_items F.type_dict_items (thn (he.run pins s σ H _ I h) fun u s1 ⟨x, H1, I1, rx, d, o, xs, ex, hd, q⟩ => ?_)
  subst ex
  obtain rfl : u = Value.ref d := rx
  obtain ⟨hs, hgd, hx, es, ep, hdt, hsz, ent⟩ := dnAt I1 hd
  have raw : DT.Raw s1.heap d es ep := ⟨o, hgd, hx, hdt⟩
  refine ⟨raw.typeIs, fun b q => ?_, ?_⟩
  · cases q
    exact ⟨o, hgd, hx.2.1⟩
  have I2 : Inv X pins σ H1 { s1 with heap := s1.heap.push { cls := .type "dict_items", data := .fields #[.ref d] } } := I1.kept (t' := s1.toks) fun b ob q => Heap.get?_push_of_some _ q
  have fin : wpAny (model X.prog X.w) X.A (pyIter (.ref s1.heap.objs.size)) (PIE X pins σ (.Tuple elts kk tpos) R) X.xe { s1 with heap := s1.heap.push { cls := .type "dict_items", data := .fields #[.ref d] } } := by
    refine DT.iterI (d := d) ⟨_, Heap.get?_push_size _ rfl, rfl, rfl⟩ (raw.push _) (pi_one (tk := s1.toks) I2 _ (turn_itemsN _ hdt) ⟨.none, .none, ?_⟩ q)
    rw [← hsz]
    exact Heap.get?_push_size _ rfl
  show wpAny _ _ (callWith cpos (.builtin "dict.items") [.ref d] [] []) _ X.xe s1
  exact method_meetsIn F.slot_dict_items F.entry_dict_items rfl (PySem.evalArgs_none ⟨rfl, raw.typeIs, F.args_dict_items_1 _, _, DT.meetsItems (es := es) (ep := ep) hs, raw, fin⟩)
end
end Mr
namespace Mr
open PySem PySem.Spec PyProof.Rows L2
variable [Wd]
theorem Dn.dict_inv {H : Hp} {v : V} {ds : List (PyData × PyData)} (h : Dn H v (.dict ds)) (hk : keysT ds = true) : ∃ a o xs, v = .ref a ∧ H a = some (DNo a o xs) ∧ DnEn H xs ds := by
  cases h with
  | dct n e a => exact absurd (dnKv_nil a hk).1 n
  | dcn e a => exact ⟨_, _, _, rfl, e, a⟩
theorem DnEn.get {H : Hp} : ∀ {xs : List (NestedKey × Addr × V)} {ds : List (PyData × PyData)}, DnEn H xs ds → ∀ {i : Nat} {k : NestedKey} {p : Addr} {v : V} {e : PyData × PyData}, xs[i]? = some (k, p, v) → ds[i]? = some e → Dn H (.ref p) e.1 ∧ Dn H v e.2
  | _, _, .nil, i, _, _, _, _, h, _ => by simp at h
  | _, _, .cons h1 hk hd h2 h3, 0, _, _, _, _, h, h' => by
    simp at h h'
    obtain ⟨_, rfl, rfl⟩ := h
    subst h'
    exact ⟨h1, h2⟩
  | _, _, .cons h1 hk hd h2 h3, i + 1, _, _, _, _, h, h' => h3.get (by simpa using h) (by simpa using h')
theorem iter_keysN {H0 : Hp} {a : Addr} {o : Obj} {xs : List (NestedKey × Addr × V)} {ds : List (PyData × PyData)} (ha : H0 a = some (DNo a o xs)) (en : DnEn H0 xs ds) : IterOk (ItkN a o xs) (ds.map (·.1)) H0 := by
  refine ⟨fun H i d l hd => ?_, fun H i l hd => ?_⟩
  · rw [List.getElem?_map] at hd
    obtain ⟨e, he, rfl⟩ := Option.map_eq_some_iff.mp hd
    have hi : i < xs.length := by rw [en.length]; exact (List.getElem?_eq_some_iff.mp he).1
    refine ⟨⟨l _ _ ha, hi⟩, fun x H' hy => ?_⟩
    obtain ⟨rfl, k, p, v, hx, rfl⟩ := hy
    exact .inl ⟨rfl, (en.get hx he).1⟩
  · rw [List.getElem?_map, Option.map_eq_none_iff] at hd
    exact ⟨l _ _ ha, by rw [en.length]; exact List.getElem?_eq_none_iff.mp hd⟩
theorem iter_itemsN {H0 : Hp} {a : Addr} {o : Obj} {xs : List (NestedKey × Addr × V)} {ds : List (PyData × PyData)} (ha : H0 a = some (DNo a o xs)) (en : DnEn H0 xs ds) : IterOk (ItiN a o xs) (ds.map fun e => .tuple [e.1, e.2]) H0 := by
  refine ⟨fun H i d l hd => ?_, fun H i l hd => ?_⟩
  · rw [List.getElem?_map] at hd
    obtain ⟨e, he, rfl⟩ := Option.map_eq_some_iff.mp hd
    have hi : i < xs.length := by rw [en.length]; exact (List.getElem?_eq_some_iff.mp he).1
    refine ⟨⟨l _ _ ha, hi⟩, fun x H' hy => ?_⟩
    obtain ⟨T, k, p, v, hx, rfl, hT, rfl⟩ := hy
    exact .inr ⟨T, _, _, rfl, rfl, hT, rfl, .cons (en.get hx he).1 (.cons (en.get hx he).2 .nil)⟩
  · rw [List.getElem?_map, Option.map_eq_none_iff] at hd
    exact ⟨l _ _ ha, by rw [en.length]; exact List.getElem?_eq_none_iff.mp hd⟩
def dictOf : Option PyData → Option (List (PyData × PyData))
  | some (.dict ds) => if keysT ds = true then some ds else none
  | _ => none
theorem dictOf_some {d : Option PyData} {ds : List (PyData × PyData)} (h : dictOf d = some ds) : d = some (.dict ds) ∧ keysT ds = true := by
  unfold dictOf at h
  split at h
  · split at h
    · cases h; exact ⟨rfl, by assumption⟩
    · cases h
  · cases h
def iKeysD (m : EM) : IM := fun ρ B => (m ρ B).bind fun e B1 => match dictOf e.data with
  | some ds => .ok (ds.map (·.1)) B1
  | none => .bad
def iItemsD (m : EM) : IM := fun ρ B => (m ρ B).bind fun e B1 => match dictOf e.data with
  | some ds => .ok (ds.map fun e => .tuple [e.1, e.2]) B1
  | none => .bad
section
variable {X : Cx} {tg e : Expr} {m : EM}
theorem mi_keysD (h : ME X e m) : MI X tg e (iKeysD m) := PI.weak (pi_keysN h) fun σ H R ⟨b, He, H0e, ρ, B, H0, s, q⟩ => by
  unfold iKeysD at q
  cases h1 : m ρ B with
  | bad => rw [h1] at q; exact q.elim
  | ok e1 B1 =>
    rw [h1, bind_ok] at q
    cases hd : dictOf e1.data with
    | none => rw [hd] at q; exact q.elim
    | some ds =>
      rw [hd] at q
      obtain ⟨hd1, hk⟩ := dictOf_some hd
      refine rdE_at s h1 fun v H01 H1 g1 s1 r1 => ?_
      obtain ⟨H02, g2, s2, D1⟩ := s.data g1 s1 r1 hd1
      obtain ⟨a, o, xs, rfl, ha, en⟩ := D1.dict_inv hk
      exact ⟨a, o, xs, rfl, s2.hr.le _ _ ha, q _ H02 H1 g2 s2 (iter_keysN ha en)⟩
theorem mi_itemsD {elts : List Expr} {kk : Nat} {tpos apos cpos : Pos} (h : ME X e m) (hbase : attributeBase e "items" X.env (eval e X.env) = eval e X.env := by rfl) (hline : (apos.endLine == cpos.line) = true := by rfl) :
    MI X (.Tuple elts kk tpos) (.Call (.Attribute e "items" apos) [] [] cpos) (iItemsD m) := PI.weak (pi_itemsN h hbase hline) fun σ H R ⟨b, He, H0e, ρ, B, H0, s, q⟩ => by
  unfold iItemsD at q
  cases h1 : m ρ B with
  | bad => rw [h1] at q; exact q.elim
  | ok e1 B1 =>
    rw [h1, bind_ok] at q
    cases hd : dictOf e1.data with
    | none => rw [hd] at q; exact q.elim
    | some ds =>
      rw [hd] at q
      obtain ⟨hd1, hk⟩ := dictOf_some hd
      refine rdE_at s h1 fun v H01 H1 g1 s1 r1 => ?_
      obtain ⟨H02, g2, s2, D1⟩ := s.data g1 s1 r1 hd1
      obtain ⟨a, o, xs, rfl, ha, en⟩ := D1.dict_inv hk
      exact ⟨a, o, xs, rfl, s2.hr.le _ _ ha, q _ H02 H1 g2 s2 (iter_itemsN ha en)⟩
/-- any statement that is not reached -/
theorem ms_bad {st : Stmt} : MS X st (fun _ _ => .bad) := ⟨fun pins s σ H D I h => by
  obtain ⟨b, He, H0e, ρ, B, H0, sr, q⟩ := h
  exact q.elim⟩
end
end Mr
namespace Mr
open PySem PySem.Spec PyProof.Rows L2
variable [Wd]
/-! ### d[k], read -/
def rIxN : R2 := fun x y H Q => ∃ a b H0 ds dk k d, x = .ref a ∧ y = .ref b ∧ Le H0 H ∧ DV H0 H a ds ∧ keysT ds = true ∧ Dn H0 (.ref b) dk ∧ keyT dk = some k ∧ getDn ds dk = some d ∧ ∀ v, Dn H0 v d → Q v H
section
variable {X : Cx}
theorem ix_dn (hu : X.A.units + 9 < cLine) (hw : X.w = Wd.w) : IxR X rIxN := by
  intro value slice pins s σ H x y v u Q I rx ry h hs
  obtain ⟨a, b, H0, ds, dk, k, d, rfl, rfl, l, dv, hks, hb, hk, hg, q⟩ := h
  obtain rfl : v = Value.ref a := rx
  obtain rfl : u = Value.ref b := ry
  obtain ⟨hk1, hk2⟩ := keyT_of hk
  obtain ⟨hz, hsys, ys, dd, hl, at'⟩ := dictV_at I hw l dv hks
  rcases at' hk1 with ⟨_, a2⟩ | ⟨p, d', v, a1, a2, a3, a4⟩
  · rw [a2] at hg; cases hg
  · rw [a2] at hg; cases hg
    refine subscriptTail_builtinR (x := p.2) dd.typeIs PySem.F.slot_dict_getitem.lookup (wpAny_getItem_heap (knd := nestedKind X.prog X.w) (show X.A.units + 1 + 8 < cLine by omega) ⟨Dn.key I.hok dk _ _ k (Dn.mono l _ _ hb) rfl hk1, hk2⟩ dd a1 ?_) hs
    exact ⟨rfl, v, H, I.tok _, a3, q v a4⟩
/-- x[k], x a name -/
def eDIxV (i : Nat) (mk : EM) : EM := fun ρ B => (mk ρ B).bind fun ek B1 => match dsOf ρ i, ek with
  | some ds, .sh dk => if (keyT dk).isSome ∧ keysT ds = true then (match getDn ds dk with
    | some d => .ok (.sh d) B1
    | none => .bad) else .bad
  | _, _ => .bad
theorem me_dixV {i : Nat} {x : Str} {xp pos : Pos} {e : Expr} {mk : EM} (hu : X.A.units + 9 < cLine) (hw : X.w = Wd.w) (hx : PE X (.Name x xp) (tVar i)) (he : ME X e mk) (hs : PlainIx e := by intro _ _; rfl) :
    ME X (.Subscript (.Name x xp) e pos) (eDIxV i mk) :=
  PE.weak (pe_ix (ix_dn hu hw) hx he hs) fun σ H Q ⟨b, He, H0e, ρ, B, H0, s, q⟩ => by
    unfold eDIxV at q
    cases h1 : mk ρ B with
    | bad => rw [h1] at q; exact q.elim
    | ok e1 B1 =>
      rw [h1, bind_ok] at q
      cases hd : dsOf ρ i with
      | none => simp only [hd] at q
      | some ds =>
        rw [hd] at q
        match e1, h1, q with
        | .ow _, _, q => exact q.elim
        | .bg, _, q => exact q.elim
        | .sh dk, h1, q =>
          by_cases hc : (keyT dk).isSome = true ∧ keysT ds = true
          · simp only [if_pos hc] at q
            cases hg : getDn ds dk with
            | none => rw [hg] at q; exact q.elim
            | some d =>
              rw [hg] at q
              obtain ⟨k, hk⟩ := Option.isSome_iff_exists.mp hc.1
              obtain ⟨a, hv, dv⟩ := s.dv hd
              refine ⟨_, hv, rdE_at s h1 fun y H01 H1 g1 s1 r1 => ?_⟩
              have r1' : Dn H01 y dk := r1
              obtain ⟨kb, rfl⟩ := keyT_ref hk r1'
              obtain ⟨a', hv', dv'⟩ := s1.dv hd
              rw [hv] at hv'; cases hv'
              exact ⟨a, kb, H01, ds, dk, k, d, rfl, rfl, s1.hr.le, dv', hc.2, r1', hk, hg, fun v hv => q v H01 H1 g1 s1 hv⟩
          · simp only [if_neg hc] at q
end
end Mr
namespace Mr
open PySem PySem.Spec PyProof.Rows L2
variable [Wd]
/-! ### sorted(d) -/
section
variable {prog : Program} {w : World} {A : Around}
theorem walksN (hh : A.handled = none) {I d : Addr} {o : Obj} {es : Array DictEntry} {ep : Nat} (hne : d ≠ I) (hdd : o.data = .dict es ep) :
    Walks prog w A I [I, d] [I] es.size (fun i v => ∃ en, es[i]? = some en ∧ v = en.key) (fun i h => h.IsKeyIter I d i es.size ep ∧ h.get? d = some o) where
  sub := fun b hb => by rw [List.mem_singleton.mp hb]; exact List.mem_cons_self
  frame := fun _ _ _ st hk => ⟨st.1.at fun o e => hk I List.mem_cons_self o e, hk d (List.mem_cons_of_mem _ List.mem_cons_self) o st.2⟩
  item := fun i s Q E hi st hQ => by
    have hx : es[i]? = some es[i] := Array.getElem?_eq_getElem hi
    refine next_key_item st.1 st.2 hdd rfl hx fun h' st' sb => ?_
    exact hQ _ h' s.toks ⟨_, hx, rfl⟩ ⟨st', (sb.2 d hne).trans st.2⟩ fun b o' hb e => (sb.2 b (fun z => hb (by rw [z]; exact List.mem_cons_self))).trans e
  done := fun s Q E st hQ => next_key_end hh st.1 st.2 hdd rfl (Nat.le_refl _) fun h' eb => hQ h' s.toks fun b o' hb e => eb b o' (fun z => hb (by rw [z]; exact List.mem_cons_self)) e
  self := fun i s Q E st h => by
    refine wpAny_pyIter_slot st.1.typeIs F.slot_dict_keyiterator_iter (wpAny_call_entry F.slot_dict_keyiterator_iter st.1.typeIs F.entry_dict_keyiterator_iter ?_ (F.args_dict_keyiterator_iter_1 _))
    show wpAny _ _ (ret (.ref I)) _ _ s
    exact wpAny_pure ⟨_, rfl, "dict_keyiterator", _, st.1.typeIs, F.slot_dict_keyiterator_next.lookup, h⟩
theorem kdlN {d : Addr} {o : Obj} {es : Array DictEntry} {ep : Nat} (lo : (d == sysModules) = false) (hx : o.ExactDict) (hdd : o.data = .dict es ep) :
    PySem.W.KdlSrc prog w "dict" d d es.size (fun i v => ∃ en, es[i]? = some en ∧ v = en.key) (fun h => h.get? d = some o) where
  type := fun _ hm => ⟨o, hm, hx.1⟩
  there := fun _ hm => ⟨Heap.lt_size hm, Heap.lt_size hm⟩
  keep := fun _ _ hm hk => hk d (.inl rfl) o hm
  notList := by decide
  notTuple := by decide
  hint := fun _ _ s _ hm hq => PySem.W.kdl_hint_dict (s := s) ⟨o, hm, hx.1⟩ hq
  iter := fun _ s hh hm => ⟨_, _, (fun _ _ hq => iter_keys lo hm hx hdd hq), walksN hh (Nat.ne_of_lt (Heap.lt_size hm)) hdd, ⟨⟨_, Heap.get?_push_size _ rfl, rfl, rfl⟩, Heap.get?_push_of_some _ hm⟩⟩
end
theorem DnEn.keysAll {H : Hp} : ∀ {xs : List (NestedKey × Addr × V)} {ds : List (PyData × PyData)}, DnEn H xs ds → DnAll H (xs.map fun x => V.ref x.2.1) (ds.map (·.1))
  | _, _, .nil => .nil
  | _, _, .cons h1 _ _ _ h3 => .cons h1 h3.keysAll
theorem keys_vals {xs : List (NestedKey × Addr × V)} {es : Array DictEntry} (ent : ∀ (i : Nat) (k : NestedKey) (p : Addr) (v : V), xs[i]? = some (k, p, v) → ∃ en : DictEntry, es[i]? = some en ∧ en.key = .ref p ∧ RelV v en.val) {us : List Value} (hl : us.length = xs.length)
    (h : ∀ (j : Nat) v, us[j]? = some v → ∃ en, es[j]? = some en ∧ v = en.key) : Vals (xs.map fun x => V.ref x.2.1) us := by
  have : ∀ (j : Nat) (v : Value), us[j]? = some v → ∃ x, xs[j]? = some x ∧ v = .ref x.2.1 := fun j v e => by
    obtain ⟨en, he, rfl⟩ := h j v e
    have hj : j < xs.length := by rw [← hl]; exact (List.getElem?_eq_some_iff.mp e).1
    obtain ⟨en', he', hk, _⟩ := ent j xs[j].1 xs[j].2.1 xs[j].2.2 (List.getElem?_eq_getElem hj)
    rw [he] at he'; cases he'
    exact ⟨_, List.getElem?_eq_getElem hj, hk⟩
  clear h ent
  induction xs generalizing us with
  | nil => cases us with
    | nil => exact .nil
    | cons u us => simp at hl
  | cons x xs ih =>
    cases us with
    | nil => simp at hl
    | cons u us =>
      obtain ⟨x', hx, hu⟩ := this 0 u rfl
      cases hx
      exact .cons hu (ih (by simpa using hl) fun j v e => this (j + 1) v e)
def gSortedD : List PyData → Option EV
  | [.dict ds] => if keysT ds = true ∧ sortOk (ds.map (·.1)) = true then some (.ow (.list ((ds.map (·.1)).mergeSort leD))) else none
  | _ => none
section
variable {X : Cx}
theorem cr_sortedDN (hcalm : X.calm = true) (hu : X.A.units + 64 < cLine) : CallR X (.builtin "sorted") (rDA gSortedD) := by
  intro pins s σ H vs us Q I r ⟨H0, dd, e, l, ra, hg, q⟩
  unfold gSortedD at hg
  split at hg
  · rename_i ds
    split at hg
    · rename_i ok
      cases hg
      obtain ⟨okk, ok⟩ := ok
      simp only [sortOk, Bool.and_eq_true, decide_eq_true_eq, Bool.or_eq_true] at ok
      obtain ⟨⟨⟨ok1, ok2⟩, ok3⟩, ok4⟩ := ok
      obtain ⟨v, rfl, rv⟩ := ra.one
      obtain ⟨a, o, xs, rfl, ha, en⟩ := rv.dict_inv okk
      obtain ⟨hs, hgd, hx, es, ep, hdt, hsz, ent⟩ := dnAt I (l _ _ ha)
      rw [Vals.ref1 r]
      have hlen : es.size ≤ sizeLine := by rw [hsz, en.length, ← List.length_map (f := (·.1))]; exact ok4
      refine Calls.call_function_entry PyProof.Rows.kind_sorted PyProof.Rows.plain_sorted PyProof.Rows.entry_sorted (PyProof.Rows.args_sorted1 _) ?_
      unfold Builtin.«sorted»
      refine wpAny_bind (m := checkCount "sorted" 1 1 _) (wpAny_pure ?_)
      refine wpAny_bind (PySem.W.kdu_collect (A := X.A.in1) (kdlN hs hx hdt) (I.ok.hd hcalm) hgd hlen fun h' tk acc hk hacc => ?_)
      have hal : acc.toList.length = xs.length := by rw [Array.length_toList, hacc.1, hsz]
      have I1 : Inv X pins σ H { s with heap := h', toks := tk } := I.kept hk
      have kv : Vals (xs.map fun x => V.ref x.2.1) acc.toList := keys_vals ent hal fun j v e => hacc.2 j v (by rw [← Array.getElem?_toList]; exact e)
      have al := en.keysAll
      refine wpAny_bind (wpAny_newList ?_ (by rw [hal, ← hsz]; exact hlen))
      have hoL : (h'.push (seqObj "list" acc.toList.toArray 0)).get? h'.objs.size = some (seqObj "list" acc.toList.toArray 0) := Heap.get?_push_size _ rfl
      show wpAny _ _ _ _ _ { s with heap := h'.push (seqObj "list" acc.toList.toArray 0), toks := tk }
      generalize hvs : (xs.map fun x => V.ref x.2.1) = vs at kv al
      generalize hds : ds.map (·.1) = ks at al ok1 ok2 ok3 ok4 q
      have ee := each_pairs al kv
      have hD : H h'.objs.size = none := I1.hok.fresh (Nat.le_refl _)
      have er : PySem.W.EachIs (fun (u : Value) (p : V × PyData) => ∃ as, Reads (h'.push (seqObj "list" acc.toList.toArray 0)) u p.2 as ∧ h'.objs.size ∉ as) acc.toList (vs.zip ks) := ee.mono fun u p hp => by
        obtain ⟨as, hr, hn⟩ := Dn.reads I1 p.2 p.1 u (Dn.mono l _ _ hp.2) hp.1
        refine ⟨as, PyProof.Rows.Reads.keeps (fun _ _ z => Heap.get?_push_of_some _ z) hr, fun hm => ?_⟩
        obtain ⟨o', ho'⟩ := hn _ hm
        rw [hD] at ho'; cases ho'
      have e2 := zip_snd al
      have len2 : (vs.zip ks).length = ks.length := by rw [List.length_zip, al.length]; exact Nat.min_self _
      refine wpAny_bind (wpAny_holding (PySem.W.list_sort_data (s := { s with heap := h'.push (seqObj "list" acc.toList.toArray 0), toks := tk }) (enc := fun p : V × PyData => p.2) hoL ee er ?_ ?_ (by rw [len2]; exact ok4) ?_ fun out ho eo => ?_))
      · rw [e2]
        intro d hd d' hd'
        have := List.all_eq_true.mp ok1 d hd
        exact List.all_eq_true.mp this d' hd'
      · rw [e2]
        rcases ok2 with ok2 | ok2
        · left
          intro d hd
          have := List.all_eq_true.mp ok2 d hd
          cases d with
          | tuple xs => cases xs with
            | nil => cases this
            | cons x xs => exact ⟨x, xs, rfl⟩
          | _ => cases this
        · right
          intro d hd
          have := List.all_eq_true.mp ok2 d hd
          cases d with
          | none => cases this
          | tuple xs => cases this
          | _ => exact ⟨nofun, fun _ => nofun⟩
      · intro p hp
        have hm : p.2 ∈ ks := by rw [← e2]; exact List.mem_map_of_mem hp
        have := List.all_eq_true.mp ok3 p.2 hm
        simp only [decide_eq_true_eq] at this
        show X.A.units + 1 + 1 + _ < _
        omega
      · obtain ⟨ep', he'⟩ := PyProof.Rows.sortedHeap_at (vs := acc.toList) (out := out.toArray) hoL
        obtain ⟨u1, u2⟩ := each_unzip eo
        have e3 : ((vs.zip ks).mergeSort (PySem.W.dataLe false fun p : V × PyData => p.2)).map (·.2) = ks.mergeSort leD := by
          rw [List.map_mergeSort (s := leD), e2]
          intro a _ c _
          rfl
        have lenS : (((vs.zip ks).mergeSort (PySem.W.dataLe false fun p : V × PyData => p.2)).map (·.1)).length ≤ sizeLine := by
          rw [List.length_map, List.length_mergeSort, len2]; exact ok4
        refine wpAny_pure ⟨_, rfl, .ref h'.objs.size, upd H h'.objs.size (.lst (((vs.zip ks).mergeSort (PySem.W.dataLe false fun p : V × PyData => p.2)).map (·.1))), I1.laid (t' := tk) (fun b u e => ?_) (Nat.le_refl _)
          ⟨lenS, out, ep', u1, he'⟩, rfl, q _ _ ⟨_, _, _, rfl, rfl, hD, rfl, ?_⟩⟩
        · have hb : b < h'.objs.size := Heap.lt_size e
          show (PyProof.Rows.sortedHeap _ _ _ _).get? b = some u
          rw [PyProof.Rows.sortedHeap_old (Nat.ne_of_lt hb) (by rw [size_push']; exact Nat.lt_succ_of_lt hb)]
          exact Heap.get?_push_of_some _ e
        · rw [← e3]
          exact u2
    · cases hg
  · cases hg
end
end Mr
namespace Mr
open PySem PySem.Spec PyProof.Rows L2
/-! ### d == e, both dicts of one heap kind -/
section
variable {prog : Program} {w : World} {K : Type} [DecidableEq K] {knd : HeapKind prog w K} {A : Around} {E : Value → Shared → Prop} {s : Shared} {a b : Addr} {xa xb : List (K × Addr × Value)}
theorem samePairsN {nm : String} {e : K → Bool} {Q : Bool → Shared → Prop} (hu : knd.room A) (ha : (a == sysModules) = false) (hb : (b == sysModules) = false) (da : s.heap.DictOfH knd a xa) (db : s.heap.DictOfH knd b xb)
    (he : ∀ x ∈ xa, ∀ p, atKey xb x.1 = some p → SeqAt.EqAt A s x.2.2 p.2 (e x.1)) (h : Q (xa.length == xb.length && xa.all fun x => (atKey xb x.1).isSome && e x.1) s) :
    wpAny (model prog w) A (Builtin.Dict.samePairs nm a b) Q E s := by
  obtain ⟨oa, es, ep, hoa, _, hda, hea, hia, hna⟩ := da
  obtain ⟨ob, es', ep', hob, _, hdb, heb, hib, hnb⟩ := db
  have hla : es.size = xa.length := size_of_entries hea
  have hlb : es'.size = xb.length := size_of_entries heb
  rw [← hla, ← hlb] at h
  unfold Builtin.Dict.samePairs Builtin.Dict.showsAll
  rw [if_neg (show ¬ (a == sysModules) = true by rw [ha]; exact Bool.false_ne_true), if_neg (show ¬ (b == sysModules) = true by rw [hb]; exact Bool.false_ne_true)]
  refine wpAny_bind (wpAny_pure (wpAny_bind (wpAny_pure ?_)))
  refine wpAny_bind (wpAny_dictEntries hoa hda ?_)
  dsimp only
  refine wpAny_bind (wpAny_dictEntries hob hdb ?_)
  by_cases hsz : es.size = es'.size
  case neg =>
    rw [if_pos (by simpa using hsz)]
    have hbf : (es.size == es'.size) = false := by simpa using hsz
    rw [hbf, Bool.false_and] at h
    exact wpAny_bind (wpAny_rule (wpAny_pure h))
  case pos =>
    have h' : Q (xa.all fun x => (atKey xb x.1).isSome && e x.1) s := by simpa [hsz] using h
    rw [if_neg (by rw [hsz]; simp)]
    refine wpAny_bind (wpAny_dictEpoch hoa hda ?_)
    refine wpAny_bind ?_
    rw [Std.Legacy.Range.forIn_eq_forIn_range']
    simp only [Std.Legacy.Range.size, Nat.sub_zero, Nat.add_sub_cancel, Nat.div_one]
    refine wpAny_forIn_list _
      (fun rest q s' => s' = s ∧ q = (none, ()) ∧ ∃ i, rest = List.range' i (es.size - i) ∧ i ≤ es.size ∧ Q ((xa.drop i).all fun x => (atKey xb x.1).isSome && e x.1) s)
      _ ?_ ?_ _ _ ⟨rfl, rfl, 0, by simp, Nat.zero_le _, h'⟩
    · rintro x rest q s' ⟨rfl, rfl, i, hr, hi, hq⟩
      have hlt : i < es.size := by
        rcases Nat.lt_or_ge i es.size with z | z
        · exact z
        · rw [Nat.sub_eq_zero_of_le z] at hr; simp at hr
      obtain ⟨rfl, hrest⟩ : x = i ∧ rest = List.range' (i + 1) (es.size - (i + 1)) := by
        have z : es.size - i = (es.size - (i + 1)) + 1 := by omega
        rw [z, List.range'_succ] at hr
        injection hr with h1 h2
        exact ⟨h1, h2⟩
      refine wpAny_bind (wpAny_dictEntries hoa hda ?_)
      rw [Array.getElem?_eq_getElem hlt]
      have hlt' : x < xa.length := by rw [← hla]; exact hlt
      obtain ⟨k, p, v, hkv⟩ : ∃ k p v, xa[x] = (k, p, v) := ⟨_, _, _, rfl⟩
      have hmem : (k, p, v) ∈ xa := by rw [← hkv]; exact List.getElem_mem hlt'
      have hent : es[x] = entryOfKey knd (k, p, v) := by
        have z := entry_at hea x
        rw [Array.getElem?_eq_getElem hlt, List.getElem?_eq_getElem hlt', hkv] at z
        exact Option.some.inj z
      have hdrop : xa.drop x = (k, p, v) :: xa.drop (x + 1) := by rw [← hkv]; exact List.drop_eq_getElem_cons hlt'
      rw [hdrop, List.all_cons] at hq
      rw [hent]
      show wpAny _ _ (holding [Value.ref p, v] _ >>= _) _ _ _
      refine wpAny_bind (wpAny_holding (wpAny_bind (wpAny_dictFind_heap (k := k) hu (hia _ hmem) hob hdb heb hib hnb (fun hn => ?_) fun j r hj => ?_)))
      · rw [atKey_none_of_get hn] at hq
        refine wpAny_pure ?_
        show wpAny _ _ (if (!false) = true then _ else _) _ _ _
        rw [if_pos (by decide)]
        exact wpAny_pure (wpAny_pure (by simpa using hq))
      · have hat : atKey xb k = some r := atKey_of_get hnb hj
        have hjl : j < es'.size := by rw [hlb]; exact (List.getElem?_eq_some_iff.mp hj).1
        have hej : es'[j] = entryOfKey knd (k, r) := by
          have z := entry_at heb j
          rw [Array.getElem?_eq_getElem hjl, hj] at z
          exact Option.some.inj z
        refine wpAny_bind (wpAny_dictEntries hob hdb ?_)
        rw [Array.getElem?_eq_getElem hjl, hej]
        have hee := he _ hmem r hat
        dsimp only at hee
        refine wpAny_holding (hee prog w _ _ ?_)
        dsimp only at hq
        rw [hat] at hq
        cases hek : e k with
        | false =>
          rw [hek] at hq
          show wpAny _ _ (if (!false) = true then _ else _) _ _ _
          rw [if_pos (by decide)]
          exact wpAny_pure (wpAny_pure (by simpa using hq))
        | true =>
          rw [hek] at hq
          show wpAny _ _ (if (!true) = true then _ else _) _ _ _
          rw [if_neg (by decide)]
          refine wpAny_bind (wpAny_dictEpoch hoa hda ?_)
          rw [if_neg (by simp)]
          exact wpAny_pure ⟨rfl, rfl, x + 1, hrest, hlt, by simpa using hq⟩
    · rintro q s' ⟨rfl, rfl, i, hr, hi, hq⟩
      have hin : i = es.size := by
        rcases Nat.lt_or_ge i es.size with z | z
        · have y : es.size - i = (es.size - (i + 1)) + 1 := by omega
          rw [y, List.range'_succ] at hr; exact nomatch hr
        · exact Nat.le_antisymm hi z
      refine wpAny_pure ?_
      rw [hin, hla, List.drop_length] at hq
      exact hq
end
end Mr
namespace Mr
open PySem PySem.Spec PyProof.Rows L2
section
variable {prog : Program} {w : World} {K : Type} [DecidableEq K] {knd : HeapKind prog w K} {A : Around} {E : Value → Shared → Prop} {s : Shared} {a b : Addr} {xa xb : List (K × Addr × Value)}
theorem eqDictN {e : K → Bool} {Q : Value → Shared → Prop} (hu : knd.room A.in1) (hc : A.units < cLine) (ha : (a == sysModules) = false) (hb : (b == sysModules) = false) (da : s.heap.DictOfH knd a xa) (db : s.heap.DictOfH knd b xb)
    (he : ∀ x ∈ xa, ∀ p, atKey xb x.1 = some p → SeqAt.EqAt A.in1 s x.2.2 p.2 (e x.1)) (h : Q (.bool (xa.length == xb.length && xa.all fun x => (atKey xb x.1).isSome && e x.1)) s) :
    wpAny (model prog w) A (compareOp .Eq (.ref a) (.ref b)) Q E s := by
  refine wpAny_richCompare_same_room (op := .Eq) da.typeIs db.typeIs PySem.F.slot_dict_eq (wpAny_call_entry PySem.F.slot_dict_eq da.typeIs PySem.F.entry_dict_eq ?_ (PySem.F.args_dict_eq_2 _ _)) hc
  show wpAny _ _ (Builtin.Dict.dictSlotArgs "__eq__" ⟨[.ref a, .ref b], []⟩ >>= _) _ _ s
  refine wpAny_bind ?_
  unfold Builtin.Dict.dictSlotArgs
  refine wpAny_bind (wpAny_notOrdered_dict da.typeIs ?_)
  show wpAny _ _ (pure (Value.ref a, Value.ref b)) _ _ s
  refine wpAny_pure ?_
  refine wpAny_bind (wpAny_isInstance (T := "dict") db.typeIs PySem.F.sub_dict_dict ?_)
  simp only [Bool.not_true, Bool.false_eq_true, if_false]
  refine wpAny_bind (wpAny_pure (wpAny_bind (wpAny_pure ?_)))
  refine wpAny_bind (samePairsN (e := e) hu ha hb da db he ?_)
  refine wpAny_pure ⟨_, rfl, (fun x => nomatch x), ?_⟩
  simpa using h
end
variable [Wd]
def getK (ds : List (PyData × PyData)) (k : NestedKey) : Option PyData := (ds.find? fun e => decide (keyN e.1 = some k)).map (·.2)
theorem getK_of {ds : List (PyData × PyData)} {k : NestedKey} {dk : PyData} (h : keyN dk = some k) : getDn ds dk = getK ds k := by
  unfold getDn getK; rw [h]
/-- the pairs of d1 stand in d2 -/
def pairsIn (d1 d2 : List (PyData × PyData)) : Bool := d1.all fun e => match getDn d1 e.1, getDn d2 e.1 with
  | some u, some v => PyData.eqv u v
  | _, _ => false
def shapedD (ds : List (PyData × PyData)) : Bool := ds.all fun e => SeqAt.shaped e.2
def gEqD : PyData → PyData → Option EV
  | .dict d1, .dict d2 => if keysT d1 = true ∧ keysT d2 = true ∧ shapedD d1 = true ∧ shapedD d2 = true then some (.sh (.bool (d1.length == d2.length && pairsIn d1 d2))) else none
  | _, _ => none
theorem getDn_mem {ds : List (PyData × PyData)} {dk d : PyData} (h : getDn ds dk = some d) : ∃ e ∈ ds, e.2 = d := by
  unfold getDn at h
  obtain ⟨e, he, rfl⟩ := Option.map_eq_some_iff.mp h
  exact ⟨e, List.mem_of_find?_eq_some he, rfl⟩
theorem dn_key_of {H : Hp} : ∀ {xs : List (NestedKey × Addr × V)} {ys : List (NestedKey × Addr × Value)} {ds : List (PyData × PyData)}, DnEn H xs ds → XY xs ys → ys.map (fun y => some y.1) = ds.map (fun e => keyN e.1)
  | _, _, _, .nil, .nil => rfl
  | _, _, _, .cons h1 hk hd h2 h3, .cons r1 r2 => by
    have e1 := r1.1
    dsimp only at e1
    rw [List.map_cons, List.map_cons, dn_key_of h3 r2, hk, e1]
section
variable {X : Cx}
theorem op_eqDN (hu : X.A.units + 66 < cLine) (hw : X.w = Wd.w) : OpR X (compareOp .Eq) (rD2 gEqD) := by
  intro pins s σ H x y v u Q I rx ry ⟨H0, d1, d2, e, l, r1, r2, hg, q⟩
  unfold gEqD at hg
  split at hg
  · rename_i d1 d2
    split at hg
    · rename_i ok
      cases hg
      obtain ⟨k1, k2, s1, s2⟩ := ok
      obtain ⟨a, o, xs, rfl, ha, en⟩ := r1.dict_inv k1
      obtain ⟨b, o', xs', rfl, hb, en'⟩ := r2.dict_inv k2
      obtain rfl : v = Value.ref a := rx
      obtain rfl : u = Value.ref b := ry
      obtain ⟨hz, hsys, ys, rxy, dd⟩ := dictN_at I hw (l _ _ ha) (DnEn.mono l _ _ en)
      obtain ⟨hz', hsys', ys', rxy', dd'⟩ := dictN_at I hw (l _ _ hb) (DnEn.mono l _ _ en')
      have keys := dn_key_of en rxy
      have key_at : ∀ y ∈ ys, ∃ e ∈ d1, keyN e.1 = some y.1 := fun y hy => by
        have : some y.1 ∈ d1.map (fun e => keyN e.1) := by rw [← keys]; exact List.mem_map.mpr ⟨y, hy, rfl⟩
        obtain ⟨e, he, hk⟩ := List.mem_map.mp this
        exact ⟨e, he, hk⟩
      let ee : NestedKey → Bool := fun k => match getK d1 k, getK d2 k with
        | some u, some v => PyData.eqv u v
        | _, _ => false
      have hnd := dd.nodup
      refine eqDictN (knd := nestedKind X.prog X.w) (e := ee) (show X.A.units + 1 + 8 < cLine by omega) (by omega) hsys hsys' dd dd' (fun y hy p hp => ?_) ?_
      · obtain ⟨en0, he0, hk0⟩ := key_at y hy
        obtain ⟨i, hi⟩ := List.mem_iff_getElem?.mp hy
        have hat : atKey ys y.1 = some y.2 := atKey_of_get hnd (i := i) (by rw [hi])
        rcases en_at hk0 en rxy with ⟨a1, _⟩ | ⟨p1, u1, v1, a1, a2, a3, a4⟩
        · rw [hat] at a1; cases a1
        · rw [hat] at a1; cases a1
          rcases en_at hk0 en' rxy' with ⟨b1, _⟩ | ⟨p2, u2, v2, b1, b2, b3, b4⟩
          · rw [hp] at b1; cases b1
          · rw [hp] at b1; cases b1
            have e1 : getK d1 y.1 = some u1 := by rw [← getK_of hk0]; exact a2
            have e2 : getK d2 y.1 = some u2 := by rw [← getK_of hk0]; exact b2
            have e3 : ee y.1 = PyData.eqv u1 u2 := by show (match getK d1 y.1, getK d2 y.1 with | some u, some v => PyData.eqv u v | _, _ => false) = _; rw [e1, e2]
            rw [e3]
            obtain ⟨_, R1, _⟩ := Dn.reads I u1 v1 _ (Dn.mono l _ _ a4) a3
            obtain ⟨_, R2, _⟩ := Dn.reads I u2 v2 _ (Dn.mono l _ _ b4) b3
            obtain ⟨f1, m1, rfl⟩ := getDn_mem a2
            obtain ⟨f2, m2, rfl⟩ := getDn_mem b2
            exact PySem.W.keq_at R1 R2 (List.all_eq_true.mp s1 _ m1) (List.all_eq_true.mp s2 _ m2) (show X.A.units + 1 + 64 < cLine by omega)
      · have hl1 : ys.length = d1.length := by rw [← Paired.length rxy, en.length]
        have hl2 : ys'.length = d2.length := by rw [← Paired.length rxy', en'.length]
        have hall : (ys.all fun x => (atKey ys' x.1).isSome && ee x.1) = pairsIn d1 d2 := by
          have g : ∀ (k : NestedKey) (dk : PyData), keyN dk = some k → ((atKey ys' k).isSome && ee k) = (match getDn d1 dk, getDn d2 dk with | some u, some v => PyData.eqv u v | _, _ => false) := fun k dk hk => by
            rw [getK_of hk, getK_of hk]
            show (_ && (match getK d1 k, getK d2 k with | some u, some v => PyData.eqv u v | _, _ => false)) = _
            rcases en_at hk en' rxy' with ⟨b1, b2⟩ | ⟨p2, u2, v2, b1, b2, _⟩
            · rw [getK_of hk] at b2
              rw [b1, b2]
              cases getK d1 k <;> rfl
            · rw [b1]; rfl
          unfold pairsIn
          have m1 : ys.all (fun x => (atKey ys' x.1).isSome && ee x.1) = (ys.map (fun y => some y.1)).all (fun o => match o with | some k => (atKey ys' k).isSome && ee k | none => false) := by rw [List.all_map]; rfl
          rw [m1, keys, List.all_map]
          have : ∀ l2 : List (PyData × PyData), (∀ e ∈ l2, (keyN e.1).isSome = true) → (l2.all ((fun o : Option NestedKey => match o with | some k => (atKey ys' k).isSome && ee k | none => false) ∘ fun e => keyN e.1)) = l2.all fun e => match getDn d1 e.1, getDn d2 e.1 with | some u, some v => PyData.eqv u v | _, _ => false := by
            intro l2
            induction l2 with
            | nil => intro _; rfl
            | cons e l2 ih =>
              intro hk
              obtain ⟨k, hk'⟩ := Option.isSome_iff_exists.mp (hk e List.mem_cons_self)
              rw [List.all_cons, List.all_cons, ih fun e he => hk e (List.mem_cons_of_mem _ he)]
              congr 1
              show (match keyN e.1 with | some k => (atKey ys' k).isSome && ee k | none => false) = _
              rw [hk']
              exact g k e.1 hk'
          exact this d1 fun e he => by
            have : keyN e.1 ∈ ys.map (fun y => some y.1) := by rw [keys]; exact List.mem_map.mpr ⟨e, he, rfl⟩
            obtain ⟨y, _, hy⟩ := List.mem_map.mp this
            rw [← hy]; rfl
        rw [hall, hl1, hl2]
        exact ⟨.bl _, H, I, rfl, q _ _ nr_bl⟩
    · cases hg
  · cases hg
end
end Mr
namespace Mr
open PySem PySem.Spec PyProof.Rows L2
/-! ### {k: v for .. in .. if ..}: a rule for any way to track the new dict -/
abbrev dict0 : Obj := { cls := .type "dict", data := .dict #[] }
/-- the reading: o0 D how the new dict at D is tracked, St D y z H N: the pair y: z may be stored, then N -/
def tDcG (o0 : Addr → HO) (St : Addr → V → V → Hp → (Hp → Prop) → Prop) (wi : TI) (g : TG) (tt : TT) (tk tv : TE) (vs : List Nat) : TE := fun σ H Q => wi σ H fun J H1 => ∀ D, H1 D = none → ∃ W : Nat → Nat → Hp → Prop, (∃ m, W 0 m (upd H1 D (o0 D))) ∧ ∀ i m H, W i m H →
  (J.stop i H ∧ Q (.ref D) H) ∨ (J.go i H ∧ ∃ Nx : Hp → Prop, (∀ H', Nx H' → ∃ m', m' < m ∧ W (i + 1) m' H') ∧ ∀ x H', J.yld i H x H' → g x (wipe σ vs) H' fun σ2 H2 => wipe σ2 vs = wipe σ vs ∧ tt σ2 H2 fun b H3 =>
    if b = true then tk σ2 H3 fun y H4 => tv σ2 H4 fun z H5 => St D y z H5 Nx else Nx H3)
section
variable {X : Cx} {o0 : Addr → HO} {St : Addr → V → V → Hp → (Hp → Prop) → Prop}
/-- what the new dict's tracking must give -/
structure DcOk (X : Cx) (o0 : Addr → HO) (St : Addr → V → V → Hp → (Hp → Prop) → Prop) : Prop where
  new : ∀ (h : Heap) (H : Hp), sysModules < h.objs.size → ObjOk X.prog X.w H (h.push dict0) h.objs.size (o0 h.objs.size)
  put : ∀ (X' : Cx), X'.prog = X.prog → X'.w = X.w → X'.A = X.A → ∀ (pins : List (Addr × Obj)) (s : Shared) (σ : L2.St) (H : Hp) (D : Addr) (y z : V) (u r : Value) (N : Hp → Prop) (Q : Unit → Shared → Prop) (E : Value → Shared → Prop),
    Inv X' pins σ H s → RelV y u → RelV z r → St D y z H N → (∀ s' H', Inv X' pins σ H' s' → N H' → Q () s') → wpAny (model X'.prog X'.w) X'.A (dictSet D u r) Q E s
theorem dcG {pins : List (Addr × Obj)} {s : Shared} {σ : L2.St} {H : Hp} {Q : VK} {kx vx tg iter : Expr} {ifs : List Expr} {scope : Scope} {own : List (Str × Nat)} {pos pos' : Pos} {wi : TI} {g : TG} {tt : TT} {tk tv : TE} {use : Option (Value → Sem Unit)} {Qf : Value → Shared → Prop}
    (dc : DcOk X o0 St) (hc : X.calm = true) (hN : X.N.Nodup) (I : Inv X pins σ H s) (hi : PI X tg iter wi) (ok : BlkOk X.N X.env.scope scope own)
    (hg : ∀ (s : Shared) (H : Hp) (C : Addr) (cl : List (Str × Addr)) (fp : List Addr), PG (X.blk s H scope (compEnvC scope cl C X.env) fp) tg g) (ht : ∀ (s : Shared) (H : Hp) (C : Addr) (cl : List (Str × Addr)) (fp : List Addr), PTs (X.blk s H scope (compEnvC scope cl C X.env) fp) ifs tt)
    (hk : ∀ (s : Shared) (H : Hp) (C : Addr) (cl : List (Str × Addr)) (fp : List Addr), PE (X.blk s H scope (compEnvC scope cl C X.env) fp) kx tk)
    (he : ∀ (s : Shared) (H : Hp) (C : Addr) (cl : List (Str × Addr)) (fp : List Addr), PE (X.blk s H scope (compEnvC scope cl C X.env) fp) vx tv) (hs : ∀ x, foldedSetIterable iter X.env x = pure x)
    (h : tDcG o0 St wi g tt tk tv (own.map (·.2)) σ H Q)
    (hRR : ∀ D C s' m H', Inv X pins σ H' s' → Q (.ref D) H' → s'.heap.Ns C m → FpOk X pins H' C → compPost (model X.prog X.w) X.A X.xe use Qf (.ref D) C (.ok .next) s') :
    wpAny (model X.prog X.w) X.A (comprehension (.DictComp kx vx [⟨tg, iter, ifs, 0⟩] scope pos) scope X.env pos' newDict false (eval iter X.env) use) Qf X.xe s := by
  refine wpAny_comprehension_free (use := use) rfl hs (closure_ok fun y hy e => (ok.free y hy e).elim (fun k => I.ok.has _ (.inl k)) fun k => I.ok.has _ (.inr k)) ok.kind (fun y hy e => by rw [ok.uniq y hy, e])
    (thn (hi.run pins s σ H _ I h) fun xv s1 hx => thn hx fun itv s2 ⟨it, fp, tn, J, H2, e, I2, T, st2, f2, q⟩ => ?_)
  subst e
  refine wpAny_newObj_type (newEnv_comp ?_)
  generalize hD : s2.heap.objs.size = D
  obtain ⟨W, ⟨m0, w0⟩, turn⟩ := q D (I2.hok.fresh (Nat.le_of_eq hD))
  generalize hs3 : ({ s2 with heap := s2.heap.push dict0 } : Shared) = s3
  have h3 : s3.heap = s2.heap.push dict0 := by rw [← hs3]
  have I3 : Inv X pins σ (upd H2 D (o0 D)) s3 := by
    rw [← hs3]
    refine I2.laid (t' := s2.toks) (fun b o e => Heap.get?_push_of_some _ e) (Nat.le_of_eq hD) ?_
    rw [← hD]
    exact dc.new s2.heap _ I2.big
  have f3 : ∀ b ∈ fp, FpOk X pins (upd H2 D (o0 D)) b ∧ b < s3.heap.objs.size := fun b hb => by
    obtain ⟨o, e, _⟩ := T.obj _ _ st2 b hb
    have hlt := Heap.lt_size e
    refine ⟨⟨?_, (f2 b hb).2⟩, by rw [h3, Heap.size_push]; exact Nat.lt_succ_of_lt hlt⟩
    rw [upd_ne (by rw [← hD]; exact Nat.ne_of_lt hlt)]
    exact (f2 b hb).1
  have I4 := block_start I3 ok hN f3
  generalize hcl : cellsFrom (s3.heap.objs.size + 1) scope.names (cloFrom X.env.cells scope.names []) = cl at I4
  have pg := hg s3 (upd H2 D (o0 D)) s3.heap.objs.size cl fp
  have pt := ht s3 (upd H2 D (o0 D)) s3.heap.objs.size cl fp
  have pk := hk s3 (upd H2 D (o0 D)) s3.heap.objs.size cl fp
  have pe := he s3 (upd H2 D (o0 D)) s3.heap.objs.size cl fp
  show codeAny _ _ (.compStart (.DictComp kx vx [⟨tg, iter, ifs, 0⟩] scope pos) 0 (.ref it) (.ref D) (compEnvC scope cl s3.heap.objs.size X.env)) (compPost (model X.prog X.w) X.A X.xe use Qf (.ref D) s3.heap.objs.size) { s3 with heap := pushCells (s3.heap.push dict0) scope.names }
  generalize hce : compEnvC scope cl s3.heap.objs.size X.env = ce at I4 pg pt pk pe ⊢
  have cL : ce.locals = s3.heap.objs.size := by subst hce; rfl
  generalize hH3 : upd H2 D (o0 D) = H3 at I3 I4 pg pt pk pe w0 f3
  generalize hs4 : ({ s3 with heap := pushCells (s3.heap.push dict0) scope.names } : Shared) = s4 at I4 ⊢
  have st4 : tn 0 s4.heap := T.keep _ _ _ st2 fun b _ o e => by rw [← hs4]; exact pushCells_keeps _ _ _ _ (Heap.get?_push_of_some _ (by rw [h3]; exact Heap.get?_push_of_some _ e))
  have stat : ∀ {σ' : L2.St} {H' : Hp} {s' : Shared}, Inv (X.blk s3 H3 scope ce fp) [] σ' H' s' → (∀ b ∈ fp, H' b = none) → ∀ b ∈ fp, FpOk (X.blk s3 H3 scope ce fp) [] H' b := fun {σ' H' s'} I' hn b hb =>
    ⟨hn b hb, (I'.ok.exf b hb).1, I'.ok.exfs b hb, .inl hb, fun x c e => (I'.ok.exf b hb).2 x c e, fun p hp => absurd (show p ∈ ([] : List (Addr × Obj)) ++ [] from hp) (by simp)⟩
  have loop : codeAny (model X.prog X.w) X.A (.compLoop (.DictComp kx vx [⟨tg, iter, ifs, 0⟩] scope pos) 0 (.ref it) (.ref D) ce) (compPost (model X.prog X.w) X.A X.xe use Qf (.ref D) s3.heap.objs.size) s4 := by
    refine compLoop_anyD (fun n s' => ∃ i H', Inv (X.blk s3 H3 scope ce fp) [] (wipe σ (own.map (·.2))) H' s' ∧ tn i s'.heap ∧ (∀ b ∈ fp, H' b = none) ∧ W i n H') ?_ m0 ⟨0, H3, I4, st4, fun b hb => (f3 b hb).1.1, w0⟩
    rintro n s5 ⟨i, H5, I5, st5, n5, w5⟩
    rcases turn i n H5 w5 with ⟨stop, qq⟩ | ⟨go, Nx, hNx, step⟩
    · refine thnF (T.done (X.blk s3 H3 scope ce fp) rfl rfl rfl hc i [] s5 _ H5 (fun _ _ => False) I5 (stat I5 n5) st5 stop) fun r s6 ⟨hr, I6⟩ => ?_
      subst hr
      have I7 : Inv X pins σ H5 s6 := I3.call' (ch := fp) I6.os I6.base I6.hok I6.bare fun b hb => ⟨(f3 b hb).1.2.2.2.1, (f3 b hb).1.2.1, (f3 b hb).1.2.2.2.2.1, (f3 b hb).1.2.2.2.2.2⟩
      have nC : H5 ce.locals = none := I6.free
      obtain ⟨m, hn, _⟩ := I6.loc
      have hn : s6.heap.Ns ce.locals m := hn
      rw [cL] at hn nC
      exact hRR D s3.heap.objs.size s6 m H5 I7 qq hn (I3.fpOk (Nat.le_refl _) nC)
    · refine thnF (T.item (X.blk s3 H3 scope ce fp) rfl rfl rfl hc i [] s5 _ H5 (fun _ _ => False) I5 (stat I5 n5) st5 go) fun r s6 ⟨u, hr, h6⟩ => ?_
      subst hr
      refine thnF h6 fun _ s7 ⟨x, H7, I7, r7, y7, st7, n7⟩ => ?_
      have I7' := I7.pinned (stat I7 n7) (T.obj _ _ st7)
      have fin : ∀ {σ8 : L2.St}, wipe σ8 (own.map (·.2)) = wipe σ (own.map (·.2)) → ∀ {s' : Shared} {H' : Hp}, Inv (X.blk s3 H3 scope ce fp) ([] ++ pinsAt fp s7.heap) σ8 H' s' → Nx H' → ∃ m, m < n ∧ ∃ i H', Inv (X.blk s3 H3 scope ce fp) [] (wipe σ (own.map (·.2))) H' s' ∧ tn i s'.heap ∧ (∀ b ∈ fp, H' b = none) ∧ W i m H' := fun {σ8} hw8 {s' H'} I' nx => by
        obtain ⟨m', hm, w'⟩ := hNx H' nx
        have pin' : ∀ b ∈ fp, ∀ o, s7.heap.get? b = some o → s'.heap.get? b = some o ∧ H' b = none := fun b hb o e =>
          let z := I'.pin (b, o) (List.mem_append_right _ (List.mem_append_right _ (mem_pinsAt hb e)))
          ⟨z.1, z.2.1⟩
        refine ⟨m', hm, i + 1, H', (I'.unpinned (pins := [])).weak (by rw [← hw8, wipe_length]) (fun j v e => ?_), T.keep _ _ _ st7 fun b hb o e => (pin' b hb o e).1, fun b hb => ?_, w'⟩
        · rw [← hw8] at e
          exact (wipe_some e).1
        · obtain ⟨o, e, _⟩ := T.obj _ _ st7 b hb
          exact (pin' b hb o e).2
      refine thnF (pg.run _ s7 _ H7 x u _ I7' r7 (step x H7 y7)) fun _ s8 ⟨σ8, H8, I8, hw8, q8⟩ => ?_
      refine thnF (pt.run _ s8 σ8 H8 _ I8 q8) fun b s9 ⟨H9, I9, q9⟩ => ?_
      cases b with
      | false =>
        simp only [Bool.false_eq_true, if_false] at q9 ⊢
        exact fin hw8 I9 q9
      | true =>
        simp only [if_true] at q9 ⊢
        refine thnF (pk.run _ s9 σ8 H9 _ I9 q9) fun z s10 ⟨yk, H10, I10, r10, q10⟩ => ?_
        refine thnF (pe.run _ s10 σ8 H10 _ I10 q10) fun z2 s11 ⟨yv, H11, I11, r11, q11⟩ => ?_
        exact dc.put (X.blk s3 H3 scope ce fp) rfl rfl rfl _ s11 σ8 H11 D yk yv z z2 Nx _ _ I11 r10 r11 q11 fun s' H' I' nx => fin hw8 I' nx
  exact codeAny_compStart_dict loop (T.self X.A 0 _ _ _ st4 loop)
end
end Mr
namespace Mr
open PySem PySem.Spec PyProof.Rows L2
variable [Wd]
abbrev N0 (D : Addr) : HO := DNo D dict0 []
def StN (D : Addr) (y z : V) (H : Hp) (N : Hp → Prop) : Prop := ∃ kb u0 xs ds dk k, y = .ref kb ∧ H D = some (DNo D u0 xs) ∧ DnEn H xs ds ∧ xs.length < sizeLine ∧ Dn H (.ref kb) dk ∧ keyT dk = some k ∧ ∀ u', N (upd H D (DNo D u' (putX xs k kb z)))
theorem d_dictSetN {X : Cx} {pins : List (Addr × Obj)} {σ : L2.St} {H : Hp} {s : Shared} {E : Value → Shared → Prop} {D b : Addr} {u0 : Obj} {xs : List (NestedKey × Addr × V)} {ds : List (PyData × PyData)} {dk : PyData} {k : NestedKey} {v : V} {r : Value} {Q : Unit → Shared → Prop}
    (hu : X.A.units + 9 < cLine) (hw : X.w = Wd.w) (I : Inv X pins σ H s) (hH : H D = some (DNo D u0 xs)) (en : DnEn H xs ds) (hl : xs.length < sizeLine) (hb : Dn H (.ref b) dk) (hk : keyT dk = some k)
    (rv : RelV v r) (h : ∀ u' s', Inv X pins σ (upd H D (DNo D u' (putX xs k b v))) s' → Q () s') : wpAny (model X.prog X.w) X.A (dictSet D (.ref b) r) Q E s := by
  obtain ⟨hk1, hk2⟩ := keyT_of hk
  obtain ⟨hz, hsys, ys, rxy, dd⟩ := dictN_at I hw hH en
  have hly : ys.length ≤ sizeLine := by rw [← Paired.length rxy]; exact hz
  refine wpAny_dictSet_heap (knd := nestedKind X.prog X.w) (hsz := hly) (show X.A.units + 8 < cLine by omega) ⟨Dn.key I.hok dk _ _ k hb rfl hk1, hk2⟩ dd fun h' dd' hs => ?_
  obtain ⟨o', es, ep, ho, hex, hd, he, _, hn⟩ := dd'
  have rp := rxy.put (k := k) (b := b) rv
  refine h o' _ (d_write I (by rw [hH]; exact True.intro) hs ⟨o', ho⟩ ⟨⟨?_, hsys, by rw [rp.keys]; exact hn, es, ep, _, ho, hex, hd, rp, ?_⟩, ⟨o', ho⟩, ?_⟩)
  · have := putX_len xs k b v; omega
  · rw [he]
    have e : (fun y : NestedKey × Addr × Value => (⟨y.1.hash Wd.w, .ref y.2.1, y.2.2⟩ : DictEntry)) = entryOfKey (nestedKind X.prog X.w) := by
      funext y
      show _ = (⟨y.1.hash X.w, .ref y.2.1, y.2.2⟩ : DictEntry)
      rw [hw]
    rw [e]
  · rintro h1 h2 ⟨z1, z2, z3, es1, ep1, ys1, z4, z5⟩ st
    exact ⟨z1, z2, z3, es1, ep1, ys1, st _ z4, z5⟩
section
variable {X : Cx}
theorem dcN_ok (hu : X.A.units + 9 < cLine) (hw : X.w = Wd.w) : DcOk X N0 StN where
  new := fun h H big => dn_empty h big _ _ _
  put := fun X' hP hw' hA pins s σ H D y z u r N Q E I ry rz st h => by
    obtain ⟨kb, u0, xs, ds, dk, k, rfl, hD, en, hl, hb, hk, nx⟩ := st
    obtain rfl : u = Value.ref kb := ry
    exact d_dictSetN (by rw [hA]; exact hu) (hw'.trans hw) I hD en hl hb hk rz fun u' s' I' => h s' _ I' (nx u')
theorem pe_dcN {kx vx tg iter : Expr} {ifs : List Expr} {scope : Scope} {own : List (Str × Nat)} {pos : Pos} {wi : TI} {g : TG} {tt : TT} {tk tv : TE} (hu : X.A.units + 9 < cLine) (hw : X.w = Wd.w) (hc : X.calm = true) (hN : X.N.Nodup) (hi : PI X tg iter wi) (ok : BlkOk X.N X.env.scope scope own)
    (hg : ∀ (s : Shared) (H : Hp) (C : Addr) (cl : List (Str × Addr)) (fp : List Addr), PG (X.blk s H scope (compEnvC scope cl C X.env) fp) tg g) (ht : ∀ (s : Shared) (H : Hp) (C : Addr) (cl : List (Str × Addr)) (fp : List Addr), PTs (X.blk s H scope (compEnvC scope cl C X.env) fp) ifs tt)
    (hk : ∀ (s : Shared) (H : Hp) (C : Addr) (cl : List (Str × Addr)) (fp : List Addr), PE (X.blk s H scope (compEnvC scope cl C X.env) fp) kx tk)
    (he : ∀ (s : Shared) (H : Hp) (C : Addr) (cl : List (Str × Addr)) (fp : List Addr), PE (X.blk s H scope (compEnvC scope cl C X.env) fp) vx tv) (hs : ∀ x, foldedSetIterable iter X.env x = pure x := by intro _; rfl) :
    PE X (.DictComp kx vx [⟨tg, iter, ifs, 0⟩] scope pos) (tDcG N0 StN wi g tt tk tv (own.map (·.2))) := by
  refine ⟨fun pins s σ H Q I h => ?_⟩
  rw [arm_eval_DictComp]
  refine dcG (dcN_ok hu hw) hc hN I hi ok hg ht hk he hs h fun D C s' m H' I' q hn ⟨f0, f1, f2, f3, f4, f5⟩ => ⟨m, hn, fun h'' sb => ?_⟩
  exact ⟨.ref D, H', I'.turned (t' := s'.toks) (fun b o hb e => (sb.2 b hb).trans e) f0 f1 f3 f4 f5, rfl, q⟩
end
end Mr
namespace Mr
open PySem PySem.Spec PyProof.Rows L2
variable [Wd]
def dcompL (f : PyData → Env → Option Env) (tt : TM) (mk mv : EM) : List PyData → Env → List (PyData × PyData) → Bag → Out (List (PyData × PyData))
  | [], _, acc, B => .ok acc B
  | d :: ds, ρ, acc, B => match f d ρ with
    | none => .bad
    | some ρ1 => (tt ρ1 B).bind fun k B1 => if k then (mk ρ1 B1).bind fun ek B2 => (mv ρ1 B2).bind fun ev B3 => (match ek, ev.data with
        | .sh dk, some x => if (keyT dk).isSome = true ∧ acc.length < sizeLine then dcompL f tt mk mv ds ρ (putDn acc dk x) B3 else .bad
        | _, _ => .bad) else dcompL f tt mk mv ds ρ acc B1
def eDComp (vs : List Nat) (mi : IM) (f : PyData → Env → Option Env) (tt : TM) (mk mv : EM) : EM := fun ρ B => (mi ρ B).bind fun ds B1 => (dcompL f tt mk mv ds (wipeE ρ vs) [] B1).bind fun acc B2 => .ok (.ow (.dict acc)) B2
theorem dcomp_rd {vs is : List Nat} {mi : IM} {f : PyData → Env → Option Env} {tt : TM} {mk mv : EM} (hs : ∀ i ∈ is, i ∈ vs) {σ : L2.St} {H : Hp} {Q : VK} (h : rdE (eDComp vs mi f tt mk mv) σ H Q) : tDcG N0 StN (rdI mi) (rdG is f) (rdT tt) (rdE mk) (rdE mv) vs σ H Q := by
  obtain ⟨b, He, H0e, ρ, B, H0, s, q⟩ := h
  unfold eDComp at q
  cases h1 : mi ρ B with
  | bad => rw [h1] at q; exact q.elim
  | ok ds B1 =>
    rw [h1, bind_ok] at q
    refine ⟨b, He, H0e, ρ, B, H0, s, ?_⟩
    rw [h1]
    intro J H01 H1 g1 s1 io D hD
    have nD : D ≠ b.1 := s1.notb hD
    have hDe : He D = none := s.gr.kp.none nD (g1.kp.none nD hD)
    have n01 : H01 D = none := s1.hr.le.none hD
    have ownD : ∀ (i : Nat) d q, (wipeE ρ vs)[i]? = some (some (.ow d)) → (L2.wipe σ vs)[i]? = some (some (.ref q)) → q ≠ D := fun i d q hi hq => by
      obtain ⟨⟨o, ho⟩, _⟩ := (s1.wipe vs).ownH hi hq
      exact ne_of_none ho hD
    obtain ⟨gD, sD⟩ := (s1.wipe vs).fresh (o := N0 D) hD
    refine ⟨fun i m Hc => ∃ B H0c acc u as, SR b He H0e (L2.wipe σ vs) (wipeE ρ vs) B H0c Hc ∧ Gr b H1 H01 Hc H0c ∧ i + m = ds.length ∧ Hc D = some (DNo D u as) ∧ H0c D = none ∧ DnEn H0c as acc ∧
        (match (dcompL f tt mk mv (ds.drop i) (wipeE ρ vs) acc B).bind fun acc B2 => Out.ok (EV.ow (.dict acc)) B2 with
          | .ok e B' => ∀ v H0' H', Gr b H H0 H' H0' → SR b He H0e σ ρ B' H0' H' → VR b H H0' H' v e → Q v H'
          | .bad => False), ⟨ds.length, B1, H01, [], dict0, [], sD, gD, by omega, upd_same, n01, .nil, q⟩, fun i m Hc hW => ?_⟩
    obtain ⟨B, H0c, acc, u, as, sW, gW, hm, hDc, h0D, al, q⟩ := hW
    cases hd : ds[i]? with
    | none =>
      left
      have hle := List.getElem?_eq_none_iff.mp hd
      rw [List.drop_eq_nil_of_le hle] at q
      exact ⟨io.stop Hc i (gW.l0.trans sW.hr.le) hd, q _ H0c Hc (g1.trans gW) (s1.more gW sW.hr) ⟨D, _, (), rfl, nD, g1.kp.none nD hD, h0D, trivial, hDc, .dct al⟩⟩
    | some d =>
      right
      obtain ⟨hi, hde⟩ := List.getElem?_eq_some_iff.mp hd
      have e1 : ds.drop i = d :: ds.drop (i + 1) := by rw [List.drop_eq_getElem_cons hi, hde]
      rw [e1] at q
      obtain ⟨go, yl⟩ := io.go Hc i d (gW.l0.trans sW.hr.le) hd
      refine ⟨go, fun Hc => ∃ B H0c acc u as, SR b He H0e (L2.wipe σ vs) (wipeE ρ vs) B H0c Hc ∧ Gr b H1 H01 Hc H0c ∧ Hc D = some (DNo D u as) ∧ H0c D = none ∧ DnEn H0c as acc ∧
        (match (dcompL f tt mk mv (ds.drop (i + 1)) (wipeE ρ vs) acc B).bind fun acc B2 => Out.ok (EV.ow (.dict acc)) B2 with
          | .ok e B' => ∀ v H0' H', Gr b H H0 H' H0' → SR b He H0e σ ρ B' H0' H' → VR b H H0' H' v e → Q v H'
          | .bad => False), fun H' hN => ?_, fun x H' hy => ?_⟩
      · obtain ⟨B', H0', acc', u', as', a1, a2, a3, a4, a5, a6⟩ := hN
        exact ⟨m - 1, by omega, B', H0', acc', u', as', a1, a2, by omega, a3, a4, a5, a6⟩
      · have n1 : NewRes H0c Hc x H' (.sh d) := by
          rcases yl x H' hy with ⟨z, r⟩ | ⟨p, vs, es, z1, z2, z3, z4, z5⟩
          · exact .inl ⟨z, Dn.mono gW.l0 _ _ r⟩
          · exact .inr ⟨p, vs, es, z1, z2, z3, z4, DnAll.mono gW.l0 _ _ z5⟩
        obtain ⟨H02, g2, s2, r2⟩ := n1.ok sW
        simp only [dcompL] at q
        cases hf : f d (wipeE ρ vs) with
        | none => rw [hf] at q; exact q.elim
        | some ρ1 =>
          rw [hf] at q
          refine ⟨b, He, H0e, wipeE ρ vs, B, H02, d, ρ1, s2, r2, hf, fun σ1 s3 l3 k3 => ⟨wipe_same l3 k3 hs, ?_⟩⟩
          cases ht : tt ρ1 B with
          | bad => simp only [ht] at q; exact q.elim
          | ok k B2 =>
            simp only [ht, bind_ok] at q
            refine rdT_at s3 ht fun H03 H3 g3 s4 => ?_
            cases k with
            | false =>
              exact ⟨B2, H03, acc, u, as, sW.more (g2.trans g3) s4.hr, gW.trans (g2.trans g3), (g2.trans g3).kp _ _ nD hDc, (g2.trans g3).n0 _ _ hDc h0D, DnEn.mono (g2.trans g3).l0 _ _ al, q⟩
            | true =>
              cases hk : mk ρ1 B2 with
              | bad => simp [hk] at q
              | ok ek B3 =>
                cases he : mv ρ1 B3 with
                | bad => simp [hk, he, bind_ok] at q
                | ok e3 B4 =>
                  simp only [hk, he, bind_ok, if_true] at q
                  refine rdE_at s4 hk fun y H04 H4 g4 s5 r5 => rdE_at s5 he fun z H05 H5 g5 s6 r6 => ?_
                  match ek, hk, r5, q with
                  | .ow _, _, _, q => exact q.elim
                  | .bg, _, _, q => exact q.elim
                  | .sh dk, _, r5, q =>
                    cases hx : e3.data with
                    | none => simp [hx] at q
                    | some x3 =>
                      simp only [hx] at q
                      obtain ⟨H06, g6, s7, D6⟩ := s5.data g5 s6 r6 hx
                      by_cases hl : (keyT dk).isSome = true ∧ acc.length < sizeLine
                      · simp only [if_pos hl] at q
                        have r5' : Dn H04 y dk := r5
                        obtain ⟨kk, hkk⟩ := Option.isSome_iff_exists.mp hl.1
                        obtain ⟨kb, rfl⟩ := keyT_ref hkk r5'
                        obtain ⟨hk1, hk2⟩ := keyT_of hkk
                        have gg := ((g2.trans g3).trans g4).trans g6
                        have hd4 := gg.kp _ _ nD hDc
                        have h05 := gg.n0 _ _ hDc h0D
                        have g7 := gW.trans gg
                        have en := DnEn.mono gg.l0 _ _ al
                        have kb' := Dn.mono g6.l0 _ _ r5'
                        refine ⟨kb, u, as, acc, dk, kk, rfl, hd4, DnEn.mono s7.hr.le _ _ en, by rw [al.length]; exact hl.2, Dn.mono s7.hr.le _ _ kb', hkk, fun u' => ?_⟩
                        exact ⟨B4, H06, putDn acc dk x3, u', _, (sW.more gg s7.hr).updN h05 hDe nD ownD, ⟨fun a o na e => by rw [upd_ne (ne_of_none e hD)]; exact g7.kp a o na e, g7.l0, g7.n0, g7.fb⟩, upd_same, h05, en.put kb' hk1 hk2 D6, q⟩
                      · simp [hl] at q
section
variable {X : Cx} {tg iter kx vx : Expr} {ifs : List Expr} {pos : Pos}
theorem me_dc {scope : Scope} {own : List (Str × Nat)} {is : List Nat} {mi : IM} {f : PyData → Env → Option Env} {tt : TM} {mk mv : EM} (hu : X.A.units + 9 < cLine) (hw : X.w = Wd.w) (hc : X.calm = true) (hN : X.N.Nodup) (hi : MI X tg iter mi) (ok : BlkOk X.N X.env.scope scope own)
    (hs : ∀ i ∈ is, i ∈ own.map (·.2))
    (hg : ∀ (s : Shared) (H : Hp) (C : Addr) (cl : List (Str × Addr)) (fp : List Addr), MG (X.blk s H scope (compEnvC scope cl C X.env) fp) tg is f) (ht : ∀ (s : Shared) (H : Hp) (C : Addr) (cl : List (Str × Addr)) (fp : List Addr), MTs (X.blk s H scope (compEnvC scope cl C X.env) fp) ifs tt)
    (hk : ∀ (s : Shared) (H : Hp) (C : Addr) (cl : List (Str × Addr)) (fp : List Addr), ME (X.blk s H scope (compEnvC scope cl C X.env) fp) kx mk)
    (he : ∀ (s : Shared) (H : Hp) (C : Addr) (cl : List (Str × Addr)) (fp : List Addr), ME (X.blk s H scope (compEnvC scope cl C X.env) fp) vx mv) (hf : ∀ x, foldedSetIterable iter X.env x = pure x := by intro _; rfl) :
    ME X (.DictComp kx vx [⟨tg, iter, ifs, 0⟩] scope pos) (eDComp (own.map (·.2)) mi f tt mk mv) := PE.weak (pe_dcN hu hw hc hN hi ok hg ht hk he hf) fun _ _ _ => dcomp_rd hs
end
theorem _root_.L2.Room.u9 {k : Nat} {A : Around} (r : L2.Room k A) : A.units + 9 < cLine := by have := r.un; omega
theorem _root_.L2.Room.u66 {k : Nat} {A : Around} (r : L2.Room k A) : A.units + 66 < cLine := by have := r.un; omega
end Mr
namespace Mr
open PySem PySem.Spec PyProof.Rows L2
variable [Wd]
/-! sum of ints -/
def intsD : List PyData → Option (List Int)
  | [] => some []
  | .int i :: r => (intsD r).map (i :: ·)
  | _ :: _ => none
theorem intsD_all : ∀ {ds : List PyData} {ns : List Int}, intsD ds = some ns → ds = ns.map PyData.int
  | [], _, h => by cases h; rfl
  | d :: ds, ns, h => by
    cases d with
    | int i =>
      simp only [intsD] at h
      obtain ⟨ms, h1, rfl⟩ := Option.map_eq_some_iff.mp h
      rw [List.map_cons, ← intsD_all h1]
    | _ => cases h
theorem ints_inv {H : Hp} : ∀ {vs : List V} {ns : List Int}, DnAll H vs (ns.map PyData.int) → vs = ns.map V.int
  | [], [], _ => rfl
  | v :: vs, n :: ns, h => by
    cases h with
    | cons a b => rw [a.int_inv, ints_inv b]; rfl
  | [], _ :: _, h => by cases h
  | _ :: _, [], h => by cases h
def gSum : List PyData → Option EV
  | [.list ds] => match intsD ds with
    | some ns => some (.sh (.int ns.sum))
    | none => none
  | _ => none
section
variable {X : Cx}
theorem cr_sumM (hc : X.calm = true) : CallR X (.builtin "sum") (rDA gSum) := by
  intro pins s σ H vs us Q I r ⟨H0, ds, e, l, ra, hg, q⟩
  unfold gSum at hg
  split at hg
  · rename_i ds
    split at hg
    · rename_i ns hn
      cases hg
      obtain ⟨v, rfl, rv⟩ := ra.one
      obtain ⟨a1, zs, rfl, ha, al⟩ := rv.lst_inv
      rw [intsD_all hn] at al
      obtain rfl := ints_inv al
      exact cr_sum hc pins s σ H _ us Q I r ⟨a1, ns, rfl, .inl (.inl (l _ _ ha)), q _ _ nr_int⟩
    · cases hg
  · cases hg
end
end Mr
namespace Mr
open PySem PySem.Spec PyProof.Rows L2
variable [Wd]
section
variable {X : Cx} {a c e : Expr} {es : List Expr} {m m1 m2 m3 : EM} {pos : Pos}
def isOw (ρ : Env) (i : Nat) : Bool := match ρ[i]? with
  | some (some (.ow _)) => true
  | _ => false
/-- an item of a list that may be owned or shared -/
def eIxV (i : Nat) (m : EM) : EM := fun ρ B => if isOw ρ i then eIxO i m ρ B else eBin gIx (eVar i) m ρ B
theorem me_ixV {i : Nat} {x : Str} {xp : Pos} (hx : PE X (.Name x xp) (tVar i)) (he : ME X e m) (hs : PlainIx e := by intro _ _; rfl) : ME X (.Subscript (.Name x xp) e pos) (eIxV i m) :=
  ⟨fun pins s0 σ H Q I ⟨b, He, H0e, ρ, B, H0, s, q⟩ => by
    unfold eIxV at q
    by_cases h : isOw ρ i = true
    · rw [if_pos h] at q
      exact (me_ixO hx he hs).run pins s0 σ H Q I ⟨b, He, H0e, ρ, B, H0, s, q⟩
    · rw [if_neg h] at q
      exact (me_ix (me_var i hx) he hs).run pins s0 σ H Q I ⟨b, He, H0e, ρ, B, H0, s, q⟩⟩
/-- x += e, ints -/
def sAug (i : Nat) (f : Int → Int → Int) (m : EM) : SM := fun ρ B => match ρ[i]? with
  | some (some (.sh (.int x))) => (m ρ B).bind fun e B1 => (match intOf e with
    | some y => .ok (.nx (ρ.set i (some (.sh (.int (f x y)))))) B1
    | none => .bad)
  | _ => .bad
theorem aug_rd {i : Nat} {f : Int → Int → Int} {D : Ends} {σ : L2.St} {H : Hp} (h : rdS (sAug i f m) D σ H) : tAug i (rdE m) (ipI f) D σ H := by
  obtain ⟨b, He, H0e, ρ, B, H0, s, q⟩ := h
  unfold sAug at q
  split at q
  · rename_i x hρ
    obtain ⟨v, hv, r⟩ := s.slot i _ hρ
    obtain rfl := Dn.int_inv r
    refine ⟨_, hv, ?_⟩
    cases h1 : m ρ B with
    | bad => rw [h1] at q; exact q.elim
    | ok e1 B1 =>
      rw [h1, bind_ok] at q
      refine rdE_at s h1 fun y H01 H1 g1 s1 r1 => ?_
      cases hi : intOf e1 with
      | none => simp [hi] at q <;> exact q.elim
      | some k =>
        simp only [hi] at q
        obtain rfl := intOf_inv r1 hi
        exact ⟨x, k, rfl, rfl, q _ H01 H1 g1.l0 (s1.set (List.getElem?_eq_some_iff.mp hρ).1 (.int _) fun d hd => nomatch hd)⟩
  · exact q.elim
theorem ms_aug {i : Nat} {x : Str} {pos' : Pos} (hN : X.N.Nodup) (hi : X.N[i]? = some x) (hx : Loc X.env.scope x) (he : ME X e m) (hf : X.fn x = true ∨ X.env.scope.names.lookup x = some .local := by first | exact .inl rfl | exact .inr rfl | assumption) :
    MS X (.AugAssign (.Name x pos') .Add e pos) (sAug i (fun i j => i + j) m) := PS.weak (ps_aug hN hi hx he ip_add hf) fun _ _ _ => aug_rd
theorem ms_augS {i : Nat} {x : Str} {pos' : Pos} (hN : X.N.Nodup) (hi : X.N[i]? = some x) (hx : Loc X.env.scope x) (he : ME X e m) (hf : X.fn x = true ∨ X.env.scope.names.lookup x = some .local := by first | exact .inl rfl | exact .inr rfl | assumption) :
    MS X (.AugAssign (.Name x pos') .Sub e pos) (sAug i (fun i j => i - j) m) := PS.weak (ps_aug hN hi hx he ip_sub hf) fun _ _ _ => aug_rd
end
/-- a name is stored, what is new is shared at once -/
def sSetS (i : Nat) (m : EM) : SM := fun ρ B => (m ρ B).bind fun e B1 => if i < ρ.length then .ok (.nx (ρ.set i (some e.share))) B1 else .bad
theorem setS_rd {m : EM} {i : Nat} {te : TE} {D : Ends} {σ : L2.St} {H : Hp} (ht : ∀ σ H Q, rdE m σ H Q → te σ H Q) (h : rdS (sSetS i m) D σ H) : tAsg te (gName i) D σ H := by
  obtain ⟨b, He, H0e, ρ, B, H0, s, q⟩ := h
  unfold sSetS at q
  cases h1 : m ρ B with
  | bad => rw [h1] at q; exact q.elim
  | ok e1 B1 =>
    rw [h1, bind_ok] at q
    refine ht _ _ _ (rdE_at s h1 fun v H01 H1 g1 s1 r1 => ?_)
    by_cases hi : i < ρ.length
    · rw [if_pos hi] at q
      cases hd : e1.data with
      | none =>
        have e2 : e1 = .bg := by cases e1 <;> first | rfl | cases hd
        subst e2
        exact q _ H01 H1 g1.l0 (s1.set hi r1 fun d hd => nomatch hd)
      | some d =>
        obtain ⟨H02, g2, s2, D1⟩ := s.data g1 s1 r1 hd
        have e2 : e1.share = .sh d := by cases e1 <;> cases hd <;> rfl
        rw [e2] at q
        exact q _ H02 H1 g2.l0 (s2.set hi D1 fun d hd => nomatch hd)
    · rw [if_neg hi] at q; exact q.elim
section
variable {X : Cx} {e tg iter elt : Expr} {ifs : List Expr} {m : EM} {pos : Pos}
theorem ms_setS {i : Nat} {x : Str} {pos' : Pos} (hN : X.N.Nodup) (hi : X.N[i]? = some x) (hx : Loc X.env.scope x) (he : ME X e m) (hs : swapsWith e (some (.Name x pos')) pos.line X.env = pure false := by rfl) (hf : X.fn x = true ∨ X.env.scope.names.lookup x = some .local := by first | exact .inl rfl | exact .inr rfl | assumption) :
    MS X (.Assign [.Name x pos'] e pos) (sSetS i m) := PS.weak (ps_set hN hi hx he hs hf) fun _ _ _ => setS_rd fun _ _ _ h => h
theorem ms_setLcS {i : Nat} {y : Str} {py spos : Pos} {scope : Scope} {own : List (Str × Nat)} {is : List Nat} {mi : IM} {f : PyData → Mr.Env → Option Mr.Env} {tt : TM} {me : EM} (hc : X.calm = true) (hN : X.N.Nodup) (hy : X.N[i]? = some y) (hyl : X.env.scope.names.lookup y = some .local)
    (hsw : swapsWith (.ListComp elt [⟨tg, iter, ifs, 0⟩] scope pos) (some (.Name y py)) spos.line X.env = pure true) (hi : MI X tg iter mi) (ok : BlkOk X.N X.env.scope scope own)
    (hs : ∀ i ∈ is, i ∈ own.map (·.2))
    (hg : ∀ (s : Shared) (H : Hp) (C : Addr) (cl : List (Str × Addr)) (fp : List Addr), MG (X.blk s H scope (compEnvC scope cl C X.env) fp) tg is f) (ht : ∀ (s : Shared) (H : Hp) (C : Addr) (cl : List (Str × Addr)) (fp : List Addr), MTs (X.blk s H scope (compEnvC scope cl C X.env) fp) ifs tt)
    (he : ∀ (s : Shared) (H : Hp) (C : Addr) (cl : List (Str × Addr)) (fp : List Addr), ME (X.blk s H scope (compEnvC scope cl C X.env) fp) elt me) (hf : ∀ x, foldedSetIterable iter X.env x = pure x := by intro _; rfl) :
    MS X (.Assign [.Name y py] (.ListComp elt [⟨tg, iter, ifs, 0⟩] scope pos) spos) (sSetS i (eComp (own.map (·.2)) mi f tt me)) := PS.weak (ps_setLc hc hN hy hyl hsw hi ok hg ht he hf) fun _ _ _ => setS_rd fun _ _ _ => comp_rd hs
end
/-- the slots are shared behind the statement -/
def sFrzA (is : List Nat) (m : SM) : SM := fun ρ B => match m ρ B with
  | .ok (.nx ρ') B' => .ok (.nx (frzE ρ' is)) B'
  | o => o
theorem ms_frzA {X : Cx} {st : Stmt} {m : SM} (is : List Nat) (h : MS X st m) : MS X st (sFrzA is m) := PS.weak h fun D σ H ⟨b, He, H0e, ρ, B, H0, s, q⟩ => by
  refine ⟨b, He, H0e, ρ, B, H0, s, ?_⟩
  unfold sFrzA at q
  cases h1 : m ρ B with
  | bad => rw [h1] at q; exact q.elim
  | ok fl B1 =>
    rw [h1] at q
    cases fl with
    | nx ρ1 =>
      intro σ' H0' H' l s'
      obtain ⟨H2, l2, s2⟩ := s'.frzE is
      exact q σ' H2 H' (l.trans l2) s2
    | rt e => exact q
    | bk ρ1 => exact q
    | ct ρ1 => exact q
/-- a def of which nothing is said -/
theorem FnM.none {P : Program} {w : World} {K : PySem.W.Frag} {mg : Str → Option Value} {base : Heap} {x qual : Str} {st : Stmt} {f : Addr} {fd : FuncData} {ps : List Str} {k n : Nat} (F : Fun K x qual st f fd) (hm : mg x = some (.ref f)) (hb : Binds K fd ps []) : FnM P w K mg base k x n (fun _ _ => .bad) :=
  ⟨f, fd, ps, ⟨fun vs h q e z => by obtain ⟨b, B, H0, es, _, _, _, z⟩ := z; exact z.elim, fun A out s h gs us xs q e _ _ _ _ _ z => by obtain ⟨b, B, H0, es, _, _, _, z⟩ := z; exact z.elim⟩, hm, F.kp, hb⟩
/-- the built-in names that the module does not bind -/
structure Bl (mg : Str → Option Value) : Prop where
  len_ : mg "len" = none
  abs_ : mg "abs" = none
  sorted_ : mg "sorted" = none
  repr_ : mg "repr" = none
  min_ : mg "min" = none
  max_ : mg "max" = none
  all_ : mg "all" = none
  any_ : mg "any" = none
  sum_ : mg "sum" = none
  int_ : mg "int" = none
  list_ : mg "list" = none
  tuple_ : mg "tuple" = none
  bool_ : mg "bool" = none
  str_ : mg "str" = none
  dict_ : mg "dict" = none
  range_ : mg "range" = none
  zip_ : mg "zip" = none
  enumerate_ : mg "enumerate" = none
  isinstance_ : mg "isinstance" = none
end Mr
namespace Mr
open PySem PySem.Spec PyProof.Rows L2
variable [Wd]
/-! ### plain lemmas over mirrors -/
theorem small9 {n : Nat} (h : n < 2 ^ 64) : n < 2 ^ 9000 := Nat.lt_of_lt_of_le h (Nat.pow_le_pow_right (by decide) (by decide))
theorem okD_int (i : Int) : okD (.int i) = true := rfl
theorem okD_str (i : Str) : okD (.str i) = true := rfl
theorem okD_bool (i : Bool) : okD (.bool i) = true := rfl
theorem okC_int (i j : Int) : okC (.int i) (.int j) = true := rfl
theorem okC_str (i j : Str) : okC (.str i) (.str j) = true := rfl
theorem eqv_int (i j : Int) : PyData.eqv (.int i) (.int j) = (i == j) := by rw [PyData.eqv]
theorem eqv_str (i j : Str) : PyData.eqv (.str i) (.str j) = (i == j) := by rw [PyData.eqv]
theorem lt_intD (a b : Int) : PySem.W.dataLt (.int a) (.int b) = decide (a < b) := PySem.W.dataLt_int a b
theorem lt_strD (a b : Str) : PySem.W.dataLt (.str a) (.str b) = decide (a.cps.toList < b.cps.toList) := PySem.W.dataLt_str a b
theorem forL_inv {f : PyData → Env → Option Env} {body : SM} (I : Env → Bag → Prop) : ∀ (ds : List PyData), (∀ d ∈ ds, ∀ ρ B, I ρ B → ∃ ρ1, f d ρ = some ρ1 ∧ ∃ ρ2 B2, body ρ1 B = .ok (.nx ρ2) B2 ∧ I ρ2 B2) →
    ∀ ρ B, I ρ B → ∃ ρ' B', forL f body ds ρ B = .ok (.nx ρ') B' ∧ I ρ' B'
  | [], _, ρ, B, h => ⟨ρ, B, rfl, h⟩
  | d :: ds, st, ρ, B, h => by
    obtain ⟨ρ1, e1, ρ2, B2, e2, h2⟩ := st d (List.mem_cons_self ..) ρ B h
    obtain ⟨ρ', B', e3, h3⟩ := forL_inv I ds (fun d hd => st d (List.mem_cons_of_mem _ hd)) ρ2 B2 h2
    refine ⟨ρ', B', ?_, h3⟩
    simp only [forL, e1, e2]
    exact e3
/-- .. by the turn's number -/
theorem forL_ix {f : PyData → Env → Option Env} {body : SM} (I : Nat → Env → Bag → Prop) : ∀ (ds : List PyData) (k : Nat), (∀ (j : Nat) d, ds[j]? = some d → ∀ ρ B, I (k + j) ρ B → ∃ ρ1, f d ρ = some ρ1 ∧ ∃ ρ2 B2, body ρ1 B = .ok (.nx ρ2) B2 ∧ I (k + j + 1) ρ2 B2) →
    ∀ ρ B, I k ρ B → ∃ ρ' B', forL f body ds ρ B = .ok (.nx ρ') B' ∧ I (k + ds.length) ρ' B'
  | [], k, _, ρ, B, h => ⟨ρ, B, rfl, h⟩
  | d :: ds, k, st, ρ, B, h => by
    obtain ⟨ρ1, e1, ρ2, B2, e2, h2⟩ := st 0 d rfl ρ B h
    obtain ⟨ρ', B', e3, h3⟩ := forL_ix I ds (k + 1) (fun j d hd ρ B hh => by
      have := st (j + 1) d (by simpa using hd) ρ B (by rw [show k + (j + 1) = k + 1 + j by omega]; exact hh)
      rwa [show k + (j + 1) + 1 = k + 1 + j + 1 by omega] at this) ρ2 B2 h2
    refine ⟨ρ', B', ?_, by rw [List.length_cons, show k + (ds.length + 1) = k + 1 + ds.length by omega]; exact h3⟩
    simp only [forL, e1, e2]
    exact e3
theorem compL_all {f : PyData → Env → Option Env} {me : EM} (P : PyData → Prop) : ∀ (ds : List PyData) (ρ : Env) (acc : List PyData) (B : Bag), BagOk B → acc.length + ds.length ≤ sizeLine →
    (∀ d ∈ ds, ∀ B, BagOk B → ∃ ρ1 e B2 x, f d ρ = some ρ1 ∧ me ρ1 B = .ok e B2 ∧ e.data = some x ∧ P x ∧ BagOk B2) →
    ∃ xs B', compL f tYesM me ds ρ acc B = .ok (acc ++ xs) B' ∧ BagOk B' ∧ xs.length = ds.length ∧ ∀ x ∈ xs, P x
  | [], ρ, acc, B, ok, _, _ => ⟨[], B, by simp [compL], ok, rfl, by simp⟩
  | d :: ds, ρ, acc, B, ok, hl, st => by
    obtain ⟨ρ1, e, B2, x, e1, e2, e3, hp, ok2⟩ := st d (List.mem_cons_self ..) B ok
    simp only [List.length_cons] at hl
    obtain ⟨xs, B', e4, ok', l4, p4⟩ := compL_all P ds ρ (acc ++ [x]) B2 ok2 (by simp; omega) (fun d hd => st d (List.mem_cons_of_mem _ hd))
    have hlt : acc.length < sizeLine := by omega
    refine ⟨x :: xs, B', ?_, ok', by simp [l4], ?_⟩
    · simp only [compL, e1, tYesM, bind_ok, e2, e3, if_true, if_pos hlt, e4]
      simp
    · intro y hy
      rcases List.mem_cons.mp hy with rfl | hy
      · exact hp
      · exact p4 y hy
/-- a comprehension by a plain function of the items -/
theorem compL_map {f : PyData → Env → Option Env} {me : EM} (F : PyData → PyData) : ∀ (ds : List PyData) (ρ : Env) (acc : List PyData) (B : Bag), acc.length + ds.length ≤ sizeLine →
    (∀ d ∈ ds, ∃ ρ1 e, f d ρ = some ρ1 ∧ me ρ1 B = .ok e B ∧ e.data = some (F d)) → compL f tYesM me ds ρ acc B = .ok (acc ++ ds.map F) B
  | [], ρ, acc, B, _, _ => by simp [compL]
  | d :: ds, ρ, acc, B, hl, st => by
    obtain ⟨ρ1, e, e1, e2, e3⟩ := st d (List.mem_cons_self ..)
    simp only [List.length_cons] at hl
    have hlt : acc.length < sizeLine := by omega
    simp only [compL, e1, tYesM, bind_ok, e2, e3, if_true, if_pos hlt]
    rw [compL_map F ds ρ (acc ++ [F d]) B (by simp; omega) (fun d hd => st d (List.mem_cons_of_mem _ hd))]
    simp
/-- .. with a test -/
theorem compL_filter {f : PyData → Env → Option Env} {me : EM} {tt : TM} (F : PyData → PyData) (T : PyData → Bool) : ∀ (ds : List PyData) (ρ : Env) (acc : List PyData) (B : Bag), acc.length + ds.length ≤ sizeLine →
    (∀ d ∈ ds, ∃ ρ1 e, f d ρ = some ρ1 ∧ tt ρ1 B = .ok (T d) B ∧ me ρ1 B = .ok e B ∧ e.data = some (F d)) → compL f tt me ds ρ acc B = .ok (acc ++ (ds.filter T).map F) B
  | [], ρ, acc, B, _, _ => by simp [compL]
  | d :: ds, ρ, acc, B, hl, st => by
    obtain ⟨ρ1, e, e1, e0, e2, e3⟩ := st d (List.mem_cons_self ..)
    simp only [List.length_cons] at hl
    have hlt : acc.length < sizeLine := by omega
    cases hT : T d with
    | true =>
      simp only [compL, e1, e0, hT, bind_ok, e2, e3, if_true, if_pos hlt]
      rw [compL_filter F T ds ρ (acc ++ [F d]) B (by simp; omega) (fun d hd => st d (List.mem_cons_of_mem _ hd))]
      simp [hT]
    | false =>
      simp only [compL, e1, e0, hT, bind_ok, Bool.false_eq_true, if_false]
      rw [compL_filter F T ds ρ acc B (by omega) (fun d hd => st d (List.mem_cons_of_mem _ hd))]
      simp [hT]
theorem cutL_nat {α : Type} (xs : List α) (a c : Nat) : cutL xs (some (a : Int)) (some (c : Int)) = (xs.drop (min a xs.length)).take (min c xs.length - min a xs.length) := by
  unfold cutL
  rw [HT.sIx_nat, HT.sIx_nat]
theorem cutL_to {α : Type} (xs : List α) (c : Nat) : cutL xs none (some (c : Int)) = xs.take (min c xs.length) := by
  unfold cutL
  rw [HT.sIx_nat, HT.sIx_none]
  simp
theorem cutL_from {α : Type} (xs : List α) (a : Nat) : cutL xs (some (a : Int)) none = xs.drop a := by
  unfold cutL
  rw [HT.sIx_nat, HT.sIx_none]
  by_cases h : a ≤ xs.length
  · rw [Nat.min_eq_left h]
    exact List.take_of_length_le (by simp)
  · rw [Nat.min_eq_right (by omega)]
    simp
    omega
theorem atI_at {α : Type} {xs : List α} {i : Int} (h0 : 0 ≤ i) (h : i < xs.length) : ∃ x, atI xs i = some x ∧ x ∈ xs ∧ xs[i.toNat]? = some x := by
  have hl : i.toNat < xs.length := by omega
  have e : i = ((i.toNat : Nat) : Int) := by omega
  refine ⟨xs[i.toNat], ?_, List.getElem_mem hl, List.getElem?_eq_getElem hl⟩
  conv => lhs; rw [e]
  exact atI_nat (List.getElem?_eq_getElem hl)
/-! ### what can be shown -/
structure Gd (n m : Nat) (d : PyData) : Prop where
  lv : d.leavesShort 130 = true
  sw : d.showable = true
  bk : d.bulk ≤ n
  dp : d.depth ≤ m
theorem Gd.mono {n m n' m' : Nat} {d : PyData} (g : Gd n m d) (h : n ≤ n') (h' : m ≤ m') : Gd n' m' d := ⟨g.lv, g.sw, Nat.le_trans g.bk h, Nat.le_trans g.dp h'⟩
theorem Gd.shown {n m : Nat} {d : PyData} (g : Gd n m d) (h : n ≤ 10000) : d.shown.length ≤ sizeLine := by
  have h1 := PyData.shown_le_bulk 130 (by decide) d g.lv
  have h2 := g.bk
  have h3 : (130 + 2) * d.bulk ≤ 132 * 10000 := Nat.mul_le_mul_left _ (by omega)
  have := sizeLine_eq
  omega
theorem reprD_ok {n m : Nat} {d : PyData} (g : Gd n m d) (h : n ≤ 10000) (h' : m ≤ 60) : gReprD [d] = some (.sh (.str d.shown)) := by
  have h1 := g.shown h
  have h2 := Nat.le_trans g.dp h'
  simp [gReprD, g.sw, h1, h2]
theorem repr_ok {n m : Nat} {d : PyData} (g : Gd n m d) (hd : d.hasDict = false) (h : n ≤ 10000) (h' : m ≤ 60) : gRepr [d] = some (.sh (.str d.shown)) := by
  have h1 := g.shown h
  have h2 := Nat.le_trans g.dp h'
  simp [gRepr, g.sw, h1, h2, hd]
/-- the sums over a list of such -/
theorem Gd.all {n m : Nat} : ∀ {ds : List PyData}, (∀ d ∈ ds, Gd n m d) → PyData.leavesShortAll 130 ds = true ∧ PyData.showableAll ds = true ∧ PyData.bulkAll ds ≤ ds.length * (n + 1) ∧ PyData.depthAll ds ≤ m
  | [], _ => ⟨by simp [PyData.leavesShortAll], by simp [PyData.showableAll], by simp [PyData.bulkAll], by simp [PyData.depthAll]⟩
  | d :: ds, h => by
    obtain ⟨a1, a2, a3, a4⟩ := Gd.all fun x hx => h x (List.mem_cons_of_mem _ hx)
    have g := h d (List.mem_cons_self ..)
    have g1 := g.bk
    have g2 := g.dp
    refine ⟨by simp [PyData.leavesShortAll, g.lv, a1], by simp [PyData.showableAll, g.sw, a2], ?_, ?_⟩
    · simp only [PyData.bulkAll, List.length_cons, Nat.add_mul, Nat.one_mul]
      omega
    · simp only [PyData.depthAll]
      omega
theorem Gd.list {n m : Nat} {ds : List PyData} (h : ∀ d ∈ ds, Gd n m d) : Gd (ds.length * (n + 1)) (m + 1) (.list ds) := by
  obtain ⟨a1, a2, a3, a4⟩ := Gd.all h
  exact ⟨by simp only [PyData.leavesShort]; exact a1, by simp only [PyData.showable]; exact a2, by simp only [PyData.bulk]; exact a3, by simp only [PyData.depth]; omega⟩
theorem Gd.tuple {n m : Nat} {ds : List PyData} (h : ∀ d ∈ ds, Gd n m d) : Gd (ds.length * (n + 1)) (m + 1) (.tuple ds) := by
  obtain ⟨a1, a2, a3, a4⟩ := Gd.all h
  exact ⟨by simp only [PyData.leavesShort]; exact a1, by simp only [PyData.showable]; exact a2, by simp only [PyData.bulk]; exact a3, by simp only [PyData.depth]; omega⟩
theorem Gd.bool {b : Bool} : Gd 0 0 (.bool b) := ⟨by simp [PyData.leavesShort], by simp [PyData.showable], by simp [PyData.bulk], by simp [PyData.depth]⟩
theorem Gd.none : Gd 0 0 .none := ⟨by simp [PyData.leavesShort], by simp [PyData.showable], by simp [PyData.bulk], by simp [PyData.depth]⟩
def asc (x : Str) : Bool := x.cps.toList.all fun c => decide (c < 128)
theorem Gd.str {x : Str} {n : Nat} (ha : asc x = true) (hl : x.cps.size ≤ n) : Gd n 0 (.str x) := by
  refine ⟨?_, by simp [PyData.showable], by simpa [PyData.bulk] using hl, by simp [PyData.depth]⟩
  simp only [PyData.leavesShort, asc, List.all_eq_true, decide_eq_true_eq] at ha ⊢
  intro c hc
  have := ha c hc
  omega
end Mr
namespace Mr
open PySem PySem.Spec PyProof.Rows L2

/-- a law's call, by a promise that holds where nothing is being shown -/
theorem law_callS {P : Program} {w : World} {K : PySem.W.Frag} {mg mb : Str → Option Value} {k : Nat} {fa a : Addr} {fd : FuncData} {x : Str} {sp : Sp} {st : Shared} {us : List Value} {ns : List Int}
    (kin : K.In st.heap) (gl : st.heap.Ns mainGlobals mg) (bl : st.heap.Ns builtinsNs mb) (bb : ∀ x : Str, x ≠ "__name__" → mb x = bootBuiltins x) (nl : st.heap.NoLimit) (ge : st.gens = #[])
    (sa : st.heap.get? a = some { cls := .type "list", data := .seq us.toArray }) (hia : IntsAre us ns) (sz : ns.length ≤ sizeLine) (hr : Room k callerA)
    (sy : ∃ mm, st.heap.Ns sysModules mm) (F : ∀ base : Heap, K.In base → base.Ns mainGlobals mg → (∃ o, base.get? sysModules = some o) → FnG P w K mg base k fa fd [x] sp) (bi : ∀ (s : Shared) (u : Value), BindsTo s fd ⟨[u], []⟩ [(x, u)])
    (pr : ∀ H : Hp, Only H → SqL K H a (ns.map V.int) → sp [.ref a] H (fun v _ => v = .bl true) fun _ _ _ => False) :
    codeAny (model P w) callerA (.call (.ref fa) ⟨[.ref a], []⟩) (fun r s' => r = .ok (.ret (.bool true)) ∧ OldK st.heap s'.heap ∧ s'.os = st.os ∧ AllBare s'.gens) st := by
  have main : ∀ H : Hp, Only H → SqL K H a (ns.map V.int) → HOk P w H st.heap → (∀ c, H c ≠ none → c = a) → (H a ≠ none → K.lookup a = none) →
      codeAny (model P w) callerA (.call (.ref fa) ⟨[.ref a], []⟩) (fun r s' => r = .ok (.ret (.bool true)) ∧ OldK st.heap s'.heap ∧ s'.os = st.os ∧ AllBare s'.gens) st := by
    intro H only sq hok onlyA free
    have isA : ∀ {c : Addr} {u : HO}, H c = some u → c = a := fun {c u} z => onlyA c (by rw [z]; exact Option.some_ne_none u)
    have notDict : ∀ {c : Addr} {o : Obj} {es : Array DictEntry} {ep : Nat}, st.heap.get? c = some o → o.data = .dict es ep → H c = none := by
      intro c o es ep z dd
      cases hc : H c with
      | none => rfl
      | some u =>
        rw [isA hc, sa] at z
        cases z
        cases dd
    have nsB : ∀ {c : Addr} {m : Str → Option Value}, st.heap.Ns c m → (hidT st.heap H).Ns c m := by
      intro c m z
      obtain ⟨o, es, ep, z1, z2, z3⟩ := z
      exact ⟨o, es, ep, hidT_get z1 (notDict z1 z2), z2, z3⟩
    have kinB : K.In (hidT st.heap H) := by
      intro c o z
      refine hidT_get (kin c o z) ?_
      cases hc : H c with
      | none => rfl
      | some u =>
        have ca := isA hc
        rw [ca] at z hc
        rw [free (by rw [hc]; exact Option.some_ne_none u)] at z
        cases z
    have lim : (hidT st.heap H).NoLimit := by
      obtain ⟨mc, z1, z2⟩ := nl
      exact ⟨mc, nsB z1, z2⟩
    have md : Mod K mg (hidT st.heap H) := ⟨kinB, nsB gl, ⟨mb, nsB bl, bb⟩, lim⟩
    have e0 : Env0 P w K mg (hidT st.heap H) callerA [] st H :=
      ⟨rfl, md, fun c o z => of_hidT z, Nat.le_of_eq (hidT_size _ _), trivial, fun c hc => absurd (show c ∈ ([] : List Addr) from hc) (by simp), hok, .of_eq ge⟩
    have syB : ∃ o, (hidT st.heap H).get? sysModules = some o := by
      obtain ⟨mm, y⟩ := sy
      obtain ⟨o, es, ep, y1, _⟩ := nsB y
      exact ⟨o, y1⟩
    have run := (F _ kinB (nsB gl) syB).grun callerA [] st H ⟨[.ref a], []⟩ [.ref a] [.ref a] _ _ rfl hr e0 (bi st (.ref a)) (.cons rfl .nil) (pr H only sq)
    refine codeAny_mono run fun r s' h => ?_
    match r, h with
    | .error e, h => exact h.elim
    | .ok (.ret u), h =>
      obtain ⟨v, H', os, bare, un, hok', rv, hv⟩ := h
      have hv' : v = .bl true := hv
      subst hv'
      obtain rfl : u = Value.bool true := rv
      refine ⟨rfl, OldK.of_keep fun c o z => ?_, os, bare⟩
      cases hc : H c with
      | none => exact un.keep c o z hc (fun y => absurd (show c ∈ ([] : List Addr) from y) (by simp)) (by simp)
      | some u =>
        rcases only c with y | ⟨ob, xs, y⟩
        · rw [hc] at y; cases y
        · obtain ⟨e1, _⟩ := hok c _ y
          obtain ⟨e2, _⟩ := hok' c _ (un.frzs c ob _ y)
          rw [z] at e1; cases e1
          exact e2
  have rv := vals_ints hia
  cases hk : K.lookup a with
  | some o =>
    have z := kin a o hk
    rw [sa] at z
    cases z
    have none' : ∀ (c : Addr) (u : HO), (fun _ => none : Hp) c = some u → False := fun c u y => nomatch y
    refine main (fun _ => none) (fun _ => .inl rfl) (.inr ⟨_, us.toArray, _, hk, rfl, rfl, rfl, ?_, by simpa using rv⟩) (fun c u y => (none' c u y).elim) (fun c y => absurd rfl y) fun y => absurd rfl y
    rw [List.size_toArray, hia.length]; exact sz
  | none =>
    let Hs : Hp := fun c => if c = a then some (.frz { cls := .type "list", data := .seq us.toArray } (.lst (ns.map V.int))) else none
    have at_a : Hs a = some (.frz { cls := .type "list", data := .seq us.toArray } (.lst (ns.map V.int))) := if_pos rfl
    have off : ∀ c, c ≠ a → Hs c = none := fun c hc => if_neg hc
    refine main Hs (fun c => ?_) (.inl (.inr ⟨_, at_a⟩)) (fun c u y => ?_) (fun c y => ?_) fun _ => hk
    · by_cases hc : c = a
      · rw [hc]; exact .inr ⟨_, _, at_a⟩
      · exact .inl (off c hc)
    · by_cases hc : c = a
      · subst hc
        rw [at_a] at y; cases y
        exact ⟨sa, by rw [List.length_map]; exact sz, us, _, rv, sa⟩
      · rw [off c hc] at y; cases y
    · by_cases hc : c = a
      · exact hc
      · exact absurd (off c hc) y
theorem walk_ofS {l : PySem.W.OpenLaw} {n k : Nat} {q : Program} {loose : List Str} {XP : (Str → Option Value) → Heap → Prop} {YP : World → Heap → Prop} {d : DefRec} {K : Params → PySem.W.Frag} {sp : World → Sp} {x : Str}
    (himp : importsNone q = true) (hn : l.most = some n) (hn2 : n ≤ sizeLine) (hdf : d.params.defaults = []) (hr : Room k callerA) (hY : ∀ (w : World) (h : Heap), YP w h → (K w.params).In h)
    (F : ∀ (w : World) (mg : Str → Option Value) (fa : Addr) (h : Heap), (K w.params).In h → h.Ns mainGlobals mg → mg d.name = some (.ref fa) →
      ∃ fd : FuncData, (∀ (s : Shared) (u : Value), BindsTo s fd ⟨[u], []⟩ [(x, u)]) ∧ ∀ base : Heap, (K w.params).In base → base.Ns mainGlobals mg → (∃ o, base.get? sysModules = some o) → FnG l.prog w (K w.params) mg base k fa fd [x] (sp w))
    (pr : ∀ (w : World) (H : Hp) (a : Addr) (ns : List Int), ns.length ≤ n → (∀ z ∈ ns, Builtin.Int.intBits z ≤ 1048576) → Only H → SqL (K w.params) H a (ns.map V.int) → sp w [.ref a] H (fun v _ => v = .bl true) fun _ _ _ => False) :
    PySem.W.WalkO q loose XP YP l.row.toRowW d [] (fun f vs => PySem.call f vs) :=
  Att.attach_callB hn hdf fun w s0 s1 mg mb fa o pm cd doc a us ns G Y _ _ _ hmg sa hia hl hbits ge => by
    obtain ⟨fd, bi, hF⟩ := F w mg fa _ (hY w _ Y) G.T.g hmg
    have sy : ∃ mm, s1.heap.Ns sysModules mm := by
      obtain ⟨mm, y, _⟩ := (G.T.seer himp).mods
      exact ⟨mm, y⟩
    exact law_callS (hY w _ Y) G.T.g G.T.b G.T.builtins G.T.nolimit ge sa hia (Nat.le_trans hl hn2) hr sy hF bi fun H only sq => pr w H a ns hl hbits only sq
end Mr
namespace Mr
open PySem PySem.Spec PyProof.Rows L2
variable [Wd]
/-! ### x == [], x != [] of any list -/
def gEqN : PyData → PyData → Option EV
  | .list xs, .list [] => some (.sh (.bool xs.isEmpty))
  | _, _ => none
def gNeN : PyData → PyData → Option EV
  | .list xs, .list [] => some (.sh (.bool (!xs.isEmpty)))
  | _, _ => none
section
variable {X : Cx}
theorem list_at {pins : List (Addr × Obj)} {s : Shared} {σ : L2.St} {H H0 : Hp} {x : V} {v : Value} {ds : List PyData} (I : Inv X pins σ H s) (l : Le H0 H) (r : Dn H0 x (.list ds)) (rx : RelV x v) :
    ∃ a its, v = .ref a ∧ s.heap.IsList a its ∧ its.size = ds.length := by
  obtain ⟨a, xs, rfl, ha, hd⟩ := Dn.lst_inv r
  cases rx
  obtain ⟨_, its, n, rv, ho⟩ := I.hok _ _ (l _ _ ha)
  exact ⟨a, its.toArray, rfl, ⟨_, ho, rfl, n, rfl⟩, by rw [List.size_toArray, ← rv.length, hd.length]⟩
theorem op_eqN (hu : X.A.units + 64 < cLine) : OpR X (compareOp .Eq) (rD2 gEqN) := by
  intro pins s σ H x y v u Q I rx ry ⟨H0, d1, d2, e, l, r1, r2, hg, q⟩
  unfold gEqN at hg
  split at hg
  · rename_i xs
    cases hg
    cases xs with
    | nil =>
      refine op_eqM hu pins s σ H x y v u Q I rx ry ⟨H0, .list [], .list [], _, l, r1, r2, ?_, q⟩
      rfl
    | cons z zs =>
      obtain ⟨a, its, rfl, h1, e1⟩ := list_at I l r1 rx
      obtain ⟨b, its2, rfl, h2, e2⟩ := list_at I l r2 ry
      exact SeqAt.eq_list_lengthsAt h1 h2 (by rw [e1, e2]; simp) (by omega) ⟨.bl false, H, I, rfl, q _ _ nr_bl⟩
  · cases hg
theorem op_neN (hu : X.A.units + 64 < cLine) : OpR X (compareOp .NotEq) (rD2 gNeN) := by
  intro pins s σ H x y v u Q I rx ry ⟨H0, d1, d2, e, l, r1, r2, hg, q⟩
  unfold gNeN at hg
  split at hg
  · rename_i xs
    cases hg
    cases xs with
    | nil =>
      refine op_neM hu pins s σ H x y v u Q I rx ry ⟨H0, .list [], .list [], _, l, r1, r2, ?_, q⟩
      rfl
    | cons z zs =>
      obtain ⟨a, its, rfl, h1, e1⟩ := list_at I l r1 rx
      obtain ⟨b, its2, rfl, h2, e2⟩ := list_at I l r2 ry
      exact SeqAt.RcNeAt.lists_lengths h1 h2 (by rw [e1, e2]; simp) (by omega) _ _ _ _ ⟨.bl true, H, I, rfl, q _ _ nr_bl⟩
  · cases hg
end
/-- an own list is handed back as such -/
def sRetO (i : Nat) : SM := fun ρ B => match ρ[i]? with
  | some (some e) => .ok (.rt e) B
  | _ => .bad
theorem ms_retO {X : Cx} {i : Nat} {x : Str} {xp pos : Pos} (hx : PE X (.Name x xp) (tVar i)) : MS X (.Return (some (.Name x xp)) pos) (sRetO i) := PS.weak (ps_ret hx) fun D σ H ⟨b, He, H0e, ρ, B, H0, s, q⟩ => by
  unfold sRetO at q
  split at q
  · rename_i e h
    obtain ⟨v, hv, r⟩ := s.slot i e h
    exact ⟨v, hv, q v H0 H s.hr s.gr r⟩
  · exact q.elim
end Mr
namespace Mr
open PySem PySem.Spec PyProof.Rows L2
variable [Wd]
/-! ### list(range(..)) of great numbers -/
section
variable {prog : Program} {w : World} {A : Around} {E : Value → Shared → Prop} {s : Shared}
theorem ext_long {R : Result → Shared → Prop} {q : Addr} {lo hi : Int} {t u v : Tok} {n : Nat} (hh : A.handled = none) (hr : IsRange s.heap q lo hi 1 t u v) (big : Builtin.Range.small lo hi 1 = false) (hn : Builtin.Range.rangeSize lo hi 1 = n) (hl : n ≤ 2 ^ 24) (L : Addr) (res : Value) (c : Nat) (hL : s.heap.get? L = some { cls := .type "list", data := .seq #[] c })
    (hR : ∀ h' tk acc c', (∀ b o, b ≠ L → s.heap.get? b = some o → h'.get? b = some o) → h'.get? L = some { cls := .type "list", dict := none, data := .seq acc c', slots := #[] } → ItemsOf (fun i v => ∃ t, v = .int (lo + i * 1) t) acc n → R (.ok (.ret res)) { s with heap := h', toks := tk }) :
    wpAny (model prog w) A.in1 (Builtin.List.listExtendWith (.ref L) (.ref q) res) (fun fin s' => match fin with | .done f => R (.ok f) s' | .again c' => c'.quiet = true ∧ codeAny (model prog w) A c' R s') (fun e s' => R (.error e) s') s := by
  have nq : L ≠ q := fun e => by rw [e, hr] at hL; simp at hL
  have ltL : L < s.heap.objs.size := Heap.lt_size hL
  have nI : L ≠ s.heap.objs.size := Nat.ne_of_lt ltL
  have W := (Walks.longrange (prog := prog) (w := w) (A := A.in1) hh s.heap.objs.size lo 1 n).toS
  have run : ∀ (h : Heap) (c1 tk : Nat), IsLongIter h s.heap.objs.size (lo + ((0 : Nat) : Int) * 1) ((n : Int) - ((0 : Nat) : Int)) 1 → (∀ b o, b ≠ L → s.heap.get? b = some o → h.get? b = some o) → h.get? L = some { cls := .type "list", data := .seq #[] c1 } →
      codeAny (model prog w) A (.builtin "list.extend.loop" ⟨[.ref L, .ref s.heap.objs.size, res], []⟩) R { s with heap := h, toks := tk } := fun h c1 tk hit hk h1 =>
    codeAny_extend_loopS W (by rw [sizeLine_eq]; omega) L (fun z => nI (List.mem_singleton.mp z)) res n 0 _ #[] c1 rfl (Nat.zero_le _) hit h1 (ItemsOf.nil _) fun s' acc c' mv h2 it => by
      rw [Moved.eq_with mv]
      exact hR s'.heap s'.toks acc c' (fun b o hb e => mv.heap b o (fun z => (List.mem_cons.mp z).elim hb fun z => absurd (Heap.lt_size e) (by rw [List.mem_singleton.mp z]; exact Nat.lt_irrefl _)) (hk b o hb e)) h2 it
  unfold Builtin.List.listExtendWith
  refine wpAny_bind (wpAny_typeOf (T := "range") ⟨_, hr, rfl⟩ ?_)
  simp only [show Builtin.List.listSameRef (.ref L) (.ref q) = false by simp [Builtin.List.listSameRef, nq], show (Value.type "range" == Value.type "list") = false by decide, show (Value.type "range" == Value.type "tuple") = false by decide, Bool.or_false, Bool.false_eq_true, if_false]
  refine wpAny_bind (wpAny_pyIter_longrange hr big ?_)
  refine wpAny_bind (wpAny_holding (wpAny_hint_range (n := n) (Heap.get?_push_of_some _ hr) hn hl ?_))
  have hit : IsLongIter (s.heap.push { cls := .type "longrange_iterator", data := .fields #[rawInt lo, rawInt (Builtin.Range.rangeSize lo hi 1), rawInt 1] }) s.heap.objs.size (lo + ((0 : Nat) : Int) * 1) ((n : Int) - ((0 : Nat) : Int)) 1 := by
    show Heap.get? _ _ = some _
    rw [hn]
    simpa using Heap.get?_push_size _ rfl
  have L1 := Heap.get?_push_of_some { cls := .type "longrange_iterator", data := .fields #[rawInt lo, rawInt (Builtin.Range.rangeSize lo hi 1), rawInt 1] } hL
  refine wpAny_ite_split (fun _ => wpAny_bind (wpAny_rule (wpAny_bind ?_))) fun _ => wpAny_pure ⟨plainId_quiet F.plain_extend_loop _, run _ c _ hit (fun b o _ e => Heap.get?_push_of_some _ e) L1⟩
  show wpAny _ _ (updateSeq L (·.push .none) >>= fun _ => updateSeq L (·.pop)) _ _ _
  refine wpAny_bind (wpAny_updateSeq L1 rfl ?_)
  have L2 := Heap.get?_update_self (Obj.mapSeq (·.push Value.none)) L1 rfl
  refine wpAny_updateSeq (hz := by seq_fits) L2 rfl ?_
  have oth : ∀ b o, b ≠ L → (s.heap.push { cls := .type "longrange_iterator", data := .fields #[rawInt lo, rawInt (Builtin.Range.rangeSize lo hi 1), rawInt 1] }).get? b = some o →
      (((s.heap.push { cls := .type "longrange_iterator", data := .fields #[rawInt lo, rawInt (Builtin.Range.rangeSize lo hi 1), rawInt 1] }).update L (Obj.mapSeq (·.push Value.none))).update L (Obj.mapSeq (·.pop))).get? b = some o :=
    fun b o hb e => (Heap.get?_update_other _ _ (Ne.symm hb)).trans ((Heap.get?_update_other _ _ (Ne.symm hb)).trans e)
  exact wpAny_pure ⟨plainId_quiet F.plain_extend_loop _, run _ _ _ (oth _ _ (Ne.symm nI) hit) (fun b o hb e => oth b o hb (Heap.get?_push_of_some _ e)) (Heap.get?_update_self (Obj.mapSeq (·.pop)) L2 rfl)⟩
theorem call_listLong {Q : Value → Shared → Prop} {q : Addr} {lo hi : Int} {t u v : Tok} {n : Nat} (hh : A.handled = none) (hr : IsRange s.heap q lo hi 1 t u v) (big : Builtin.Range.small lo hi 1 = false) (hn : Builtin.Range.rangeSize lo hi 1 = n) (hl : n ≤ 2 ^ 24)
    (hQ : ∀ h' tk acc c', (∀ b o, s.heap.get? b = some o → h'.get? b = some o) → h'.get? s.heap.objs.size = some { cls := .type "list", dict := none, data := .seq acc c', slots := #[] } → ItemsOf (fun i v => ∃ t, v = .int (lo + i * 1) t) acc n → Q (.ref s.heap.objs.size) { s with heap := h', toks := tk }) :
    wpAny (model prog w) A (call (.type "list") [.ref q]) Q E s := by
  refine callType_codes (Q₁ := fun x s1 => x = .ref s.heap.objs.size ∧ s1 = { s with heap := s.heap.push { cls := .type "list", data := .seq #[] } }) F.called_list (F.typeCall_list_1 _) F.entry_list_init (code_list_new _ ⟨rfl, rfl⟩) fun x s1 z => ?_
  obtain ⟨rfl, rfl⟩ := z
  have hL : (s.heap.push { cls := .type "list", data := .seq #[] }).get? s.heap.objs.size = some { cls := .type "list", data := .seq #[] } := Heap.get?_push_size _ rfl
  refine ⟨⟨_, hL, rfl⟩, F.args_list_init_2 _ _, ?_⟩
  show wpAny _ _ (do let old ← Builtin.List.listItems (.ref s.heap.objs.size); Builtin.List.listUpdate (.ref s.heap.objs.size) (fun _ => #[]); letGo old.toList.reverse; Builtin.List.listExtendWith (.ref s.heap.objs.size) (.ref q) .none) _ _ _
  refine wpAny_bind ?_
  unfold Builtin.List.listItems
  refine wpAny_bind (wpAny_seqItems hL rfl (wpAny_pure ?_))
  refine wpAny_bind (m := updateSeq s.heap.objs.size (fun _ => #[])) (wpAny_updateSeq hL rfl ?_)
  have oth : ∀ b o, b ≠ s.heap.objs.size → (s.heap.push { cls := .type "list", data := .seq #[] }).get? b = some o → ((s.heap.push { cls := .type "list", data := .seq #[] }).update s.heap.objs.size (Obj.mapSeq (fun _ => (#[] : Array Value)))).get? b = some o :=
    fun b o hb e => (Heap.get?_update_other _ _ (Ne.symm hb)).trans e
  refine wpAny_bind (wpAny_letGo ?_)
  have nq : q ≠ s.heap.objs.size := Nat.ne_of_lt (Heap.lt_size hr)
  refine ext_long (A := A.in1) hh (oth q _ nq (Heap.get?_push_of_some _ hr)) big hn hl _ .none _ (Heap.get?_update_self (Obj.mapSeq (fun _ => (#[] : Array Value))) hL rfl) fun h' tk acc c' hk h1 it => ?_
  exact ⟨rfl, hQ h' tk acc c' (fun b o e => hk b o (Nat.ne_of_lt (Heap.lt_size e)) (oth b o (Nat.ne_of_lt (Heap.lt_size e)) (Heap.get?_push_of_some _ e))) h1 it⟩
end
section
variable {X : Cx} {a c d e : Expr} {es : List Expr} {m m1 m2 m3 : EM} {pos : Pos}
/-- list(range) of any two ends -/
theorem pe_listAny {te : L2.St → Hp → (Int → Int → Hp → Prop) → Prop} {p : Pos} (hc : X.calm = true) (hg : Gl X "list") (hm : X.mg "list" = none) (he : PRg X e te) (na : starEach [e] X.env = (false, eval e X.env) :: starEach [] X.env := by rfl) :
    PE X (.Call (.Name "list" p) [e] [] pos) (fun σ H Q => te σ H fun lo hi H1 => (hi - lo).toNat ≤ 2 ^ 24 ∧ ∀ q, H1 q = none → Q (.ref q) (upd H1 q (.lst (rgV lo hi)))) := by
  refine ⟨fun pins s σ H Q I h => ?_⟩
  refine Call_ (ld_blt I hg hm boot_list (PyProof.Rows.callWith_type1 (args_cons (thn (he pins s σ H _ I h) fun x s1 ⟨r, lo, hi, t, u, v, H1, ex, hr, I1, ok, q⟩ => args_nil ?_) na) na))
  subst ex
  have fin : ∀ h' tk (acc : Array Value) (c' : Nat), (∀ b o, s1.heap.get? b = some o → h'.get? b = some o) → h'.get? s1.heap.objs.size = some { cls := .type "list", dict := none, data := .seq acc c', slots := #[] } → ItemsOf (fun i v => ∃ t, v = .int (lo + i * 1) t) acc (hi - lo).toNat →
      ∃ x H', Inv X pins σ H' { s1 with heap := h', toks := tk } ∧ RelV x (.ref s1.heap.objs.size) ∧ Q x H' := fun h' tk acc c' hk e' it =>
    ⟨.ref s1.heap.objs.size, upd H1 s1.heap.objs.size (.lst (rgV lo hi)), I1.laid hk (Nat.le_refl _) (show ObjOk X.prog X.w _ _ _ (.lst (rgV lo hi)) from ⟨by rw [rgV_length, sizeLine_eq]; omega, acc.toList, c', vals_rg it, by rw [Array.toArray_toList]; exact e'⟩), rfl, q _ (I1.hok.fresh (Nat.le_refl _))⟩
  cases hs : Builtin.Range.small lo hi 1 with
  | true => exact call_list_range (n := (hi - lo).toNat) (I1.ok.hd hc) hr hs (rangeSize_nat lo hi) ok fun h' tk acc c' hk e' it => fin h' tk acc c' hk e' it
  | false => exact call_listLong (n := (hi - lo).toNat) (I1.ok.hd hc) hr hs (rangeSize_nat lo hi) ok fun h' tk acc c' hk e' it => fin h' tk acc c' hk e' it
def rgE (lo hi : Int) (B : Bag) : Out EV := if (hi - lo).toNat ≤ 2 ^ 24 then .ok (.ow (.list (rangeD lo hi))) B else .bad
def eLR1 (m : EM) : EM := fun ρ B => (m ρ B).bind fun e B1 => match intOf e with
  | some n => rgE 0 n B1
  | none => .bad
def eLR2 (m1 m2 : EM) : EM := fun ρ B => (m1 ρ B).bind fun e1 B1 => (m2 ρ B1).bind fun e2 B2 => match intOf e1, intOf e2 with
  | some lo, some hi => rgE lo hi B2
  | _, _ => .bad
theorem rgV_all {H : Hp} (lo hi : Int) : DnAll H (rgV lo hi) (rangeD lo hi) := by
  unfold rgV rangeD
  have : ∀ l : List Nat, DnAll H (l.map fun i => V.int (lo + (i : Nat))) (l.map fun (k : Nat) => PyData.int (lo + (k : Int))) := fun l => by
    induction l with
    | nil => exact .nil
    | cons x l ih => exact .cons (.int _) ih
  exact this _
section
variable {b : Addr × Addr} {He H0e H0 H H1 H01 : Hp} {σ : L2.St} {ρ : Env} {B B1 : Bag}
theorem rg_new {lo hi : Int} {Q : VK} {e' : EV} {B' : Bag} (s : SR b He H0e σ ρ B H0 H) (g : Gr b H H0 H1 H01) (s1 : SR b He H0e σ ρ B1 H01 H1) (h : rgE lo hi B1 = .ok e' B')
    (q : ∀ v H0' H', Gr b H H0 H' H0' → SR b He H0e σ ρ B' H0' H' → VR b H H0' H' v e' → Q v H') : (hi - lo).toNat ≤ 2 ^ 24 ∧ ∀ p, H1 p = none → Q (.ref p) (upd H1 p (.lst (rgV lo hi))) := by
  unfold rgE at h
  split at h
  · rename_i hl
    cases h
    refine ⟨hl, fun p hp => ?_⟩
    obtain ⟨H05, g5, s5, r5⟩ := NewRes.ok (z := .ref p) (e := .ow (.list (rangeD lo hi))) (H' := upd H1 p (.lst (rgV lo hi))) s1 ⟨p, _, _, rfl, rfl, hp, rfl, rgV_all lo hi⟩
    exact q _ H05 _ (g.trans g5) s5 (r5.back g)
  · cases h
end
theorem me_LR1 {p p2 pos2 : Pos} (hc : X.calm = true) (hg : Gl X "list") (hm : X.mg "list" = none) (hg2 : Gl X "range") (hm2 : X.mg "range" = none) (ha : ME X a m)
    (na : starEach [a] X.env = (false, eval a X.env) :: starEach [] X.env := by rfl) (nb : starEach [.Call (.Name "range" p2) [a] [] pos2] X.env = (false, eval (.Call (.Name "range" p2) [a] [] pos2) X.env) :: starEach [] X.env := by rfl) :
    ME X (.Call (.Name "list" p) [.Call (.Name "range" p2) [a] [] pos2] [] pos) (eLR1 m) := PE.weak (pe_listAny hc hg hm (prg_1 hg2 hm2 ha na) nb) fun σ H Q ⟨b, He, H0e, ρ, B, H0, s, q⟩ => by
  unfold eLR1 at q
  cases h1 : m ρ B with
  | bad => rw [h1] at q; exact q.elim
  | ok e1 B1 =>
    rw [h1, bind_ok] at q
    refine rdE_at s h1 fun v H01 H1 g1 s1 r1 => ?_
    cases hi : intOf e1 with
    | none => rw [hi] at q; exact q.elim
    | some n =>
      rw [hi] at q
      refine ⟨n, intOf_inv r1 hi, ?_⟩
      cases h2 : rgE 0 n B1 with
      | bad => simp only [h2] at q
      | ok e2 B2 => simp only [h2] at q; exact rg_new s g1 s1 h2 q
theorem me_LR2 {p p2 pos2 : Pos} (hc : X.calm = true) (hg : Gl X "list") (hm : X.mg "list" = none) (hg2 : Gl X "range") (hm2 : X.mg "range" = none) (ha : ME X a m1) (hb : ME X c m2)
    (na : starEach [a, c] X.env = (false, eval a X.env) :: starEach [c] X.env := by rfl) (nc : starEach [c] X.env = (false, eval c X.env) :: starEach [] X.env := by rfl) (hp : (backTo pos2 (starEach [c] X.env)).any (·.1) = false := by rfl)
    (nb : starEach [.Call (.Name "range" p2) [a, c] [] pos2] X.env = (false, eval (.Call (.Name "range" p2) [a, c] [] pos2) X.env) :: starEach [] X.env := by rfl) :
    ME X (.Call (.Name "list" p) [.Call (.Name "range" p2) [a, c] [] pos2] [] pos) (eLR2 m1 m2) := PE.weak (pe_listAny hc hg hm (prg_2 hg2 hm2 ha hb na nc hp) nb) fun σ H Q ⟨b, He, H0e, ρ, B, H0, s, q⟩ => by
  unfold eLR2 at q
  cases h1 : m1 ρ B with
  | bad => rw [h1] at q; exact q.elim
  | ok e1 B1 =>
    rw [h1, bind_ok] at q
    refine rdE_at s h1 fun v H01 H1 g1 s1 r1 => ?_
    cases h2 : m2 ρ B1 with
    | bad => rw [h2] at q; exact q.elim
    | ok e2 B2 =>
      rw [h2, bind_ok] at q
      refine rdE_at s1 h2 fun y H02 H2 g2 s2 r2 => ?_
      cases hi : intOf e1 with
      | none => rw [hi] at q; exact q.elim
      | some lo =>
        cases hj : intOf e2 with
        | none => rw [hi, hj] at q; exact q.elim
        | some hi' =>
          rw [hi, hj] at q
          refine ⟨lo, hi', intOf_inv r1 hi, intOf_inv r2 hj, ?_⟩
          cases h3 : rgE lo hi' B2 with
          | bad => simp only [h3] at q
          | ok e3 B3 => simp only [h3] at q; exact rg_new s (g1.trans g2) s2 h3 q
/-! ### xs.extend(e) of one's own list -/
def sExt (i : Nat) (m : EM) : SM := fun ρ B => (m ρ B).bind fun e B1 => match e.data, ρ[i]? with
  | some (.list zs), some (some (.ow (.list ds))) => if ds.length + zs.length ≤ sizeLine then .ok (.nx (ρ.set i (some (.ow (.list (ds ++ zs)))))) B1 else .bad
  | _, _ => .bad
theorem ms_ext {i : Nat} {x : Str} {xp apos cpos : Pos} (hx : PE X (.Name x xp) (tVar i)) (he : ME X e m)
    (hbase : attributeBase (.Name x xp) "extend" X.env (eval (.Name x xp) X.env) = eval (.Name x xp) X.env := by rfl)
    (hfew : ((backTo cpos (starEach [e] X.env)).all (fun x => !x.1) && (backToKw cpos (keywordEach [] X.env)).all (fun x => x.1.isSome)
      && decide ([e].length + ([] : List Keyword).length + (if ([] : List Keyword).isEmpty then 0 else 1) < 30)) = true := by rfl)
    (hline : (apos.endLine == cpos.line) = true := by rfl) (hs : starEach [e] X.env = (false, eval e X.env) :: starEach [] X.env := by rfl) (hplain : (backTo cpos (starEach [] X.env)).any (·.1) = false := by rfl)
    (hsw : swapsWith (.Call (.Attribute (.Name x xp) "extend" apos) [e] [] cpos) none pos.line X.env = pure false := by rfl) :
    MS X (.Expr (.Call (.Attribute (.Name x xp) "extend" apos) [e] [] cpos) pos) (sExt i m) :=
  PS.weak (ps_expr (pe_bm PySem.F.plainAttrs_list PySem.F.slot_list_extend PySem.F.type_list_extend mt_extend hx (pa_cons he pa_nil hs) hbase hfew hline hs hplain) hsw) fun D σ H ⟨b, He, H0e, ρ, B, H0, s, q⟩ => by
    unfold sExt at q
    cases h1 : m ρ B with
    | bad => rw [h1] at q; exact q.elim
    | ok e1 B1 =>
      rw [h1, bind_ok] at q
      split at q
      · rename_i zs ds hd hi
        obtain ⟨v, hv, p, vs, ds', rfl, nb, hpe, h0, e2, hH, al⟩ := s.slotL hi
        cases e2
        by_cases hl : ds.length + zs.length ≤ sizeLine
        · simp only [if_pos hl] at q
          refine ⟨_, hv, .inl ⟨rfl, vs, .inl (.inl hH)⟩, rdE_at s h1 fun y H01 H1 g1 s1 r1 => ?_⟩
          obtain ⟨H02, g2, s2, D1⟩ := s.data g1 s1 r1 hd
          obtain ⟨v', hv', p', vs', ds'', e3, _, _, _, e4, hH', al'⟩ := s2.slotL hi
          rw [hv] at hv'; cases hv'; cases e3; cases e4
          obtain ⟨q', ws, rfl, hq', aw⟩ := D1.lst_inv
          exact ⟨p, q', vs', ws, rfl, rfl, hH', s2.hr.le _ _ hq', by rw [al'.length, aw.length]; exact hl, q σ H02 _ g2.l0 (s2.updO hi hv (al'.append aw))⟩
        · simp only [if_neg hl] at q; exact q.elim
      · exact q.elim
/-! ### three names at once -/
def sPar3 (i j l : Nat) (m1 m2 m3 : EM) : SM := fun ρ B => (m1 ρ B).bind fun e1 B1 => (m2 ρ B1).bind fun e2 B2 => (m3 ρ B2).bind fun e3 B3 =>
  if i < ρ.length ∧ j < ρ.length ∧ l < ρ.length then .ok (.nx (((ρ.set i (some e1)).set j (some e2)).set l (some e3))) B3 else .bad
theorem own_apart {b : Addr × Addr} {H H1 H01 H' H0' : Hp} {v y : V} {d d' : PyData} (r1 : VR b H H01 H1 v (.ow d)) (r2 : VR b H1 H0' H' y (.ow d')) : v ≠ y := by
  obtain ⟨p, vs, ds, rfl, _, _, _, _, hp, _⟩ := r1
  obtain ⟨p', vs', ds', rfl, _, hp', _⟩ := r2
  intro e
  cases e
  rw [hp] at hp'; cases hp'
theorem par3_sr {b : Addr × Addr} {He H0e H0 H H1 H01 H2 H02 H3 H03 : Hp} {σ : L2.St} {ρ : Env} {B B1 B2 B3 : Bag} {i j l : Nat} {v y w : V} {e1 e2 e3 : EV} (s : SR b He H0e σ ρ B H0 H) (g1 : Gr b H H0 H1 H01) (s1 : SR b He H0e σ ρ B1 H01 H1) (r1 : VR b H H01 H1 v e1)
    (g2 : Gr b H1 H01 H2 H02) (s2 : SR b He H0e σ ρ B2 H02 H2) (r2 : VR b H1 H02 H2 y e2) (g3 : Gr b H2 H02 H3 H03) (s3 : SR b He H0e σ ρ B3 H03 H3) (r3 : VR b H2 H03 H3 w e3) (hl : i < ρ.length ∧ j < ρ.length ∧ l < ρ.length) :
    SR b He H0e (((σ.set i (some v)).set j (some y)).set l (some w)) (((ρ.set i (some e1)).set j (some e2)).set l (some e3)) B3 H03 H3 := by
  have g13 := (g1.trans g2).trans g3
  have t1 : SR b He H0e (σ.set i (some v)) (ρ.set i (some e1)) B3 H03 H3 := s.setE g13 s3 hl.1 ((r1.mono g2).mono g3)
  have t2 : SR b He H0e ((σ.set i (some v)).set j (some y)) ((ρ.set i (some e1)).set j (some e2)) B3 H03 H3 := by
    refine t1.set (by simpa using hl.2.1) ((r2.mono g3).back (s.gr.trans g1)) fun d hd k d' hk ho hz => ?_
    subst hd
    by_cases hki : i = k
    · subst hki
      rw [List.getElem?_set_self hl.1] at ho
      rw [List.getElem?_set_self (by rw [s.len]; exact hl.1)] at hz
      cases ho; cases hz
      exact own_apart r1 r2 rfl
    · rw [List.getElem?_set_ne hki] at ho hz
      obtain ⟨p, vs, ds, rfl, hb, hp1, _⟩ := r2
      obtain ⟨⟨o, ho'⟩, _⟩ := s1.ownH ho hz
      rw [hp1] at ho'; cases ho'
  refine t2.set (by simpa using hl.2.2) (r3.back ((s.gr.trans g1).trans g2)) fun d hd k d' hk ho hz => ?_
  subst hd
  by_cases hkj : j = k
  · subst hkj
    rw [List.getElem?_set_self (by simpa using hl.2.1)] at ho
    rw [List.getElem?_set_self (by simpa [s.len] using hl.2.1)] at hz
    cases ho; cases hz
    exact own_apart r2 r3 rfl
  · rw [List.getElem?_set_ne hkj] at ho hz
    by_cases hki : i = k
    · subst hki
      rw [List.getElem?_set_self hl.1] at ho
      rw [List.getElem?_set_self (by rw [s.len]; exact hl.1)] at hz
      cases ho; cases hz
      exact own_apart (r1.mono g2) r3 rfl
    · rw [List.getElem?_set_ne hki] at ho hz
      obtain ⟨p, vs, ds, rfl, hb, hp1, _⟩ := r3
      obtain ⟨⟨o, ho'⟩, _⟩ := s2.ownH ho hz
      rw [hp1] at ho'; cases ho'
theorem par2_sr {b : Addr × Addr} {He H0e H0 H H1 H01 H2 H02 : Hp} {σ : L2.St} {ρ : Env} {B B1 B2 : Bag} {i j : Nat} {v y : V} {e1 e2 : EV} (s : SR b He H0e σ ρ B H0 H) (g1 : Gr b H H0 H1 H01) (s1 : SR b He H0e σ ρ B1 H01 H1) (r1 : VR b H H01 H1 v e1)
    (g2 : Gr b H1 H01 H2 H02) (s2 : SR b He H0e σ ρ B2 H02 H2) (r2 : VR b H1 H02 H2 y e2) (hl : i < ρ.length ∧ j < ρ.length) : SR b He H0e ((σ.set i (some v)).set j (some y)) ((ρ.set i (some e1)).set j (some e2)) B2 H02 H2 := by
  have t1 : SR b He H0e (σ.set i (some v)) (ρ.set i (some e1)) B2 H02 H2 := s.setE (g1.trans g2) s2 hl.1 (r1.mono g2)
  refine t1.set (by simpa using hl.2) (r2.back (s.gr.trans g1)) fun d hd k d' hk ho hz => ?_
  subst hd
  by_cases hki : i = k
  · subst hki
    rw [List.getElem?_set_self hl.1] at ho
    rw [List.getElem?_set_self (by rw [s.len]; exact hl.1)] at hz
    cases ho; cases hz
    exact own_apart r1 r2 rfl
  · rw [List.getElem?_set_ne hki] at ho hz
    obtain ⟨p, vs, ds, rfl, hb, hp1, _⟩ := r2
    obtain ⟨⟨o, ho'⟩, _⟩ := s1.ownH ho hz
    rw [hp1] at ho'; cases ho'
theorem par3_go {i j l : Nat} {D : Ends} {σ : L2.St} {H : Hp} (h : rdS (sPar3 i j l m1 m2 m3) D σ H) {K : PySem.W.Frag} :
    tCons (rdE m1) (tCons (rdE m2) (tCons (rdE m3) tNil)) σ H fun vs H1 => ∃ v y w, vs = [v, y, w] ∧ D.nx (((σ.set i (some v)).set j (some y)).set l (some w)) H1 ∧ ∀ p, H1 p = none → D.nx (((σ.set i (some v)).set j (some y)).set l (some w)) (upd H1 p (.tup vs)) := by
  obtain ⟨b, He, H0e, ρ, B, H0, s, q⟩ := h
  unfold sPar3 at q
  cases h1 : m1 ρ B with
  | bad => rw [h1] at q; exact q.elim
  | ok e1 B1 =>
    rw [h1, bind_ok] at q
    cases h2 : m2 ρ B1 with
    | bad => rw [h2] at q; exact q.elim
    | ok e2 B2 =>
      rw [h2, bind_ok] at q
      cases h3 : m3 ρ B2 with
      | bad => rw [h3] at q; exact q.elim
      | ok e3 B3 =>
        rw [h3, bind_ok] at q
        refine rdE_at s h1 fun v H01 H1 g1 s1 r1 => rdE_at s1 h2 fun y H02 H2 g2 s2 r2 => rdE_at s2 h3 fun w H03 H3 g3 s3 r3 => ?_
        by_cases hl : i < ρ.length ∧ j < ρ.length ∧ l < ρ.length
        · rw [if_pos hl] at q
          refine ⟨v, y, w, rfl, q _ H03 H3 ((g1.trans g2).trans g3).l0 (par3_sr s g1 s1 r1 g2 s2 r2 g3 s3 r3 hl), fun p hp => ?_⟩
          obtain ⟨g4, s4⟩ := s3.fresh (o := .tup [v, y, w]) hp
          exact q _ H03 _ (((g1.trans g2).trans g3).trans g4).l0 (par3_sr s g1 s1 r1 g2 s2 r2 (g3.trans g4) s4 (r3.mono g4) hl)
        · rw [if_neg hl] at q; exact q.elim
theorem par2_go {i j : Nat} {D : Ends} {σ : L2.St} {H : Hp} (h : rdS (sPar2 i j m1 m2) D σ H) {K : PySem.W.Frag} :
    tCons (rdE m1) (tCons (rdE m2) tNil) σ H fun vs H1 => ∃ v y, vs = [v, y] ∧ ∀ p, H1 p = none → D.nx ((σ.set i (some v)).set j (some y)) (upd H1 p (.tup vs)) := by
  obtain ⟨b, He, H0e, ρ, B, H0, s, q⟩ := h
  unfold sPar2 at q
  cases h1 : m1 ρ B with
  | bad => rw [h1] at q; exact q.elim
  | ok e1 B1 =>
    rw [h1, bind_ok] at q
    cases h2 : m2 ρ B1 with
    | bad => rw [h2] at q; exact q.elim
    | ok e2 B2 =>
      rw [h2, bind_ok] at q
      refine rdE_at s h1 fun v H01 H1 g1 s1 r1 => rdE_at s1 h2 fun y H02 H2 g2 s2 r2 => ?_
      by_cases hl : i < ρ.length ∧ j < ρ.length
      · rw [if_pos hl] at q
        refine ⟨v, y, rfl, fun p hp => ?_⟩
        obtain ⟨g4, s4⟩ := s2.fresh (o := .tup [v, y]) hp
        exact q _ H02 _ ((g1.trans g2).trans g4).l0 (par2_sr s g1 s1 r1 (g2.trans g4) s4 (r2.mono g4) hl)
      · rw [if_neg hl] at q; exact q.elim
theorem ms_par3 {i j l : Nat} {x y z : Str} {px py pz pt : Pos} {kt k2 pt2} (hc : X.calm = true) (hN : X.N.Nodup) (hi : X.N[i]? = some x) (hj : X.N[j]? = some y) (hl : X.N[l]? = some z) (hij : i ≠ j) (hil : i ≠ l) (hjl : j ≠ l)
    (hx : X.env.scope.names.lookup x = some .local) (hy : X.env.scope.names.lookup y = some .local) (hz : X.env.scope.names.lookup z = some .local) (ha : ME X a m1) (hb : ME X c m2) (hd : ME X d m3)
    (hw : swappedStores [.Tuple [.Name x px, .Name y py, .Name z pz] kt pt] (.Tuple [a, c, d] k2 pt2) X.env = pure (some [x, y, z]))
    (hs : swapsWithSole [.Tuple [.Name x px, .Name y py, .Name z pz] kt pt] (.Tuple [a, c, d] k2 pt2) pos.line X.env = pure false := by rfl)
    (h1 : starEach [a, c, d] X.env = (false, eval a X.env) :: starEach [c, d] X.env := by rfl) (h2 : starEach [c, d] X.env = (false, eval c X.env) :: starEach [d] X.env := by rfl) (h3 : starEach [d] X.env = (false, eval d X.env) :: starEach [] X.env := by rfl) :
    MS X (.Assign [.Tuple [.Name x px, .Name y py, .Name z pz] kt pt] (.Tuple [a, c, d] k2 pt2) pos) (sPar3 i j l m1 m2 m3) := PS.weak (ps_par3 hc hN hi hj hl hij hil hjl hx hy hz (pa_cons ha (pa_cons hb (pa_cons hd pa_nil h3) h2) h1) hw hs) fun D σ H h => by
  have z := par3_go h (K := X.K)
  obtain ⟨b, He, H0e, ρ, B, H0, s, q⟩ := z
  refine ⟨b, He, H0e, ρ, B, H0, s, ?_⟩
  cases h1 : m1 ρ B with
  | bad => rw [h1] at q; exact q
  | ok e1 B1 =>
    rw [h1] at q
    intro v H01 H1 g1 s1 r1
    obtain ⟨b, He, H0e, ρ, B, H0, s, q⟩ := q v H01 H1 g1 s1 r1
    refine ⟨b, He, H0e, ρ, B, H0, s, ?_⟩
    cases h2 : m2 ρ B with
    | bad => rw [h2] at q; exact q
    | ok e2 B2 =>
      rw [h2] at q
      intro v2 H02 H2 g2 s2 r2
      obtain ⟨b, He, H0e, ρ, B, H0, s, q⟩ := q v2 H02 H2 g2 s2 r2
      refine ⟨b, He, H0e, ρ, B, H0, s, ?_⟩
      cases h3 : m3 ρ B with
      | bad => rw [h3] at q; exact q
      | ok e3 B3 =>
        rw [h3] at q
        intro v3 H03 H3 g3 s3 r3
        obtain ⟨u1, u2, u3, e, n, _⟩ := q v3 H03 H3 g3 s3 r3
        exact ⟨u1, u2, u3, e, n⟩
/-! ### .. where a name is a cell -/
theorem ms_parC3 {i j l : Nat} {x y z : Str} {px py pz pt : Pos} {kt k2 pt2} (hc : X.calm = true) (hN : X.N.Nodup) (hi : X.N[i]? = some x) (hj : X.N[j]? = some y) (hl : X.N[l]? = some z)
    (hx : Loc X.env.scope x) (hy : Loc X.env.scope y) (hz : Loc X.env.scope z) (ha : ME X a m1) (hb : ME X c m2) (hd : ME X d m3)
    (fx : X.fn x = true ∨ X.env.scope.names.lookup x = some .local := by first | exact .inl rfl | exact .inr rfl | assumption) (fy : X.fn y = true ∨ X.env.scope.names.lookup y = some .local := by first | exact .inl rfl | exact .inr rfl | assumption) (fz : X.fn z = true ∨ X.env.scope.names.lookup z = some .local := by first | exact .inl rfl | exact .inr rfl | assumption)
    (hs : swapsWithSole [.Tuple [.Name x px, .Name y py, .Name z pz] kt pt] (.Tuple [a, c, d] k2 pt2) pos.line X.env = pure false := by rfl) (hw : swappedStores [.Tuple [.Name x px, .Name y py, .Name z pz] kt pt] (.Tuple [a, c, d] k2 pt2) X.env = pure none := by rfl)
    (h1 : starEach [a, c, d] X.env = (false, eval a X.env) :: starEach [c, d] X.env := by rfl) (h2 : starEach [c, d] X.env = (false, eval c X.env) :: starEach [d] X.env := by rfl) (h3 : starEach [d] X.env = (false, eval d X.env) :: starEach [] X.env := by rfl)
    (k0 : (assignEach [.Tuple [.Name x px, .Name y py, .Name z pz] kt pt] X.env).map (·.2) = [assign (.Tuple [.Name x px, .Name y py, .Name z pz] kt pt) X.env] := by rfl)
    (k1 : (assignEach [.Name x px, .Name y py, .Name z pz] X.env).map (·.2) = assign (.Name x px) X.env :: (assignEach [.Name y py, .Name z pz] X.env).map (·.2) := by rfl) (k2' : (assignEach [.Name y py, .Name z pz] X.env).map (·.2) = assign (.Name y py) X.env :: (assignEach [.Name z pz] X.env).map (·.2) := by rfl) (k3 : (assignEach [.Name z pz] X.env).map (·.2) = assign (.Name z pz) X.env :: (assignEach [] X.env).map (·.2) := by rfl)
    (kn : (assignEach [.Name x px, .Name y py, .Name z pz] X.env).length = 3 := by rfl) (kf : (assignEach [.Name x px, .Name y py, .Name z pz] X.env).findIdx? (·.1) = none := by rfl) :
    MS X (.Assign [.Tuple [.Name x px, .Name y py, .Name z pz] kt pt] (.Tuple [a, c, d] k2 pt2) pos) (sPar3 i j l m1 m2 m3) :=
  PS.weak (ps_asg (pe_tup (pa_cons ha (pa_cons hb (pa_cons hd pa_nil h3) h2) h1)) (pg_tup hc (pgs_cons (pg_name hN hi hx fx) (pgs_cons (pg_name hN hj hy fy) (pgs_cons (pg_name hN hl hz fz) pgs_nil k3) k2') k1) kn kf) hs hw k0) fun D σ H h => by
  have z := par3_go h (K := X.K)
  obtain ⟨b, He, H0e, ρ, B, H0, s, q⟩ := z
  refine ⟨b, He, H0e, ρ, B, H0, s, ?_⟩
  cases h1 : m1 ρ B with
  | bad => rw [h1] at q; exact q
  | ok e1 B1 =>
    rw [h1] at q
    intro v H01 H1 g1 s1 r1
    obtain ⟨b, He, H0e, ρ, B, H0, s, q⟩ := q v H01 H1 g1 s1 r1
    refine ⟨b, He, H0e, ρ, B, H0, s, ?_⟩
    cases h2 : m2 ρ B with
    | bad => rw [h2] at q; exact q
    | ok e2 B2 =>
      rw [h2] at q
      intro v2 H02 H2 g2 s2 r2
      obtain ⟨b, He, H0e, ρ, B, H0, s, q⟩ := q v2 H02 H2 g2 s2 r2
      refine ⟨b, He, H0e, ρ, B, H0, s, ?_⟩
      cases h3 : m3 ρ B with
      | bad => rw [h3] at q; exact q
      | ok e3 B3 =>
        rw [h3] at q
        intro v3 H03 H3 g3 s3 r3
        obtain ⟨u1, u2, u3, e, _, n⟩ := q v3 H03 H3 g3 s3 r3
        cases e
        exact ⟨by show 3 ≤ sizeLine; decide, fun p hp => ⟨p, [v, v2, v3], rfl, .inl (.inl upd_same), rfl, v, [v2, v3], rfl, v2, [v3], rfl, v3, [], rfl, rfl, n p hp⟩⟩
theorem ms_parC2 {i j : Nat} {x y : Str} {px py pt : Pos} {kt k2 pt2} (hc : X.calm = true) (hN : X.N.Nodup) (hi : X.N[i]? = some x) (hj : X.N[j]? = some y)
    (hx : Loc X.env.scope x) (hy : Loc X.env.scope y) (ha : ME X a m1) (hb : ME X c m2)
    (fx : X.fn x = true ∨ X.env.scope.names.lookup x = some .local := by first | exact .inl rfl | exact .inr rfl | assumption) (fy : X.fn y = true ∨ X.env.scope.names.lookup y = some .local := by first | exact .inl rfl | exact .inr rfl | assumption)
    (hs : swapsWithSole [.Tuple [.Name x px, .Name y py] kt pt] (.Tuple [a, c] k2 pt2) pos.line X.env = pure false := by rfl) (hw : swappedStores [.Tuple [.Name x px, .Name y py] kt pt] (.Tuple [a, c] k2 pt2) X.env = pure none := by rfl)
    (h1 : starEach [a, c] X.env = (false, eval a X.env) :: starEach [c] X.env := by rfl) (h2 : starEach [c] X.env = (false, eval c X.env) :: starEach [] X.env := by rfl)
    (k0 : (assignEach [.Tuple [.Name x px, .Name y py] kt pt] X.env).map (·.2) = [assign (.Tuple [.Name x px, .Name y py] kt pt) X.env] := by rfl)
    (k1 : (assignEach [.Name x px, .Name y py] X.env).map (·.2) = assign (.Name x px) X.env :: (assignEach [.Name y py] X.env).map (·.2) := by rfl) (k2' : (assignEach [.Name y py] X.env).map (·.2) = assign (.Name y py) X.env :: (assignEach [] X.env).map (·.2) := by rfl)
    (kn : (assignEach [.Name x px, .Name y py] X.env).length = 2 := by rfl) (kf : (assignEach [.Name x px, .Name y py] X.env).findIdx? (·.1) = none := by rfl) :
    MS X (.Assign [.Tuple [.Name x px, .Name y py] kt pt] (.Tuple [a, c] k2 pt2) pos) (sPar2 i j m1 m2) :=
  PS.weak (ps_asg (pe_tup (pa_cons ha (pa_cons hb pa_nil h2) h1)) (pg_tup hc (pgs_cons (pg_name hN hi hx fx) (pgs_cons (pg_name hN hj hy fy) pgs_nil k2') k1) kn kf) hs hw k0) fun D σ H h => by
  have z := par2_go h (K := X.K)
  obtain ⟨b, He, H0e, ρ, B, H0, s, q⟩ := z
  refine ⟨b, He, H0e, ρ, B, H0, s, ?_⟩
  cases h1 : m1 ρ B with
  | bad => rw [h1] at q; exact q
  | ok e1 B1 =>
    rw [h1] at q
    intro v H01 H1 g1 s1 r1
    obtain ⟨b, He, H0e, ρ, B, H0, s, q⟩ := q v H01 H1 g1 s1 r1
    refine ⟨b, He, H0e, ρ, B, H0, s, ?_⟩
    cases h2 : m2 ρ B with
    | bad => rw [h2] at q; exact q
    | ok e2 B2 =>
      rw [h2] at q
      intro v2 H02 H2 g2 s2 r2
      obtain ⟨u1, u2, e, n⟩ := q v2 H02 H2 g2 s2 r2
      cases e
      exact ⟨by show 2 ≤ sizeLine; decide, fun p hp => ⟨p, [v, v2], rfl, .inl (.inl upd_same), rfl, v, [v2], rfl, v2, [], rfl, rfl, n p hp⟩⟩
end
end Mr
namespace Mr
open PySem PySem.Spec PyProof.Rows L2
variable [Wd]
/-! ### what holds behind a mirror's run -/
@[irreducible] def Sat {α : Type} (o : Out α) (Q : α → Bag → Prop) : Prop := match o with
  | .ok a B => Q a B
  | .bad => False
section
variable {α β : Type} {ρ ρ' : Env} {B B' : Bag} {m m1 m2 m3 : EM} {t t1 t2 : TM} {ms : AM} {Q : EV → Bag → Prop} {QT : Bool → Bag → Prop} {QA : List EV → Bag → Prop} {QS : Flow → Bag → Prop} {QI : List PyData → Bag → Prop} {d d1 d2 : PyData} {e e1 e2 : EV} {i j k : Nat}
theorem sat_ok {Q : α → Bag → Prop} {a : α} (q : Q a B) : Sat (.ok a B) Q := by unfold Sat; exact q
theorem sat_of {Q : α → Bag → Prop} {a : α} (q : Sat (.ok a B) Q) : Q a B := by unfold Sat at q; exact q
theorem sat_bad {Q : α → Bag → Prop} (q : Sat (.bad : Out α) Q) : False := by unfold Sat at q; exact q
theorem sat_eq {o : Out α} {Q : α → Bag → Prop} {a : α} (h : o = .ok a B) (q : Q a B) : Sat o Q := by rw [h]; exact sat_ok q
theorem sat_inv {o : Out α} {Q : α → Bag → Prop} (h : Sat o Q) : ∃ a B, o = .ok a B ∧ Q a B := by
  cases o with
  | ok a B => exact ⟨a, B, rfl, sat_of h⟩
  | bad => exact (sat_bad h).elim
theorem sat_bind {o : Out α} {f : α → Bag → Out β} {Q : β → Bag → Prop} : Sat (o.bind f) Q = Sat o fun a B => Sat (f a B) Q := by
  cases o with
  | ok a B => exact propext ⟨fun h => sat_ok h, fun h => sat_of (Q := fun a B => Sat (f a B) Q) h⟩
  | bad => exact propext ⟨fun h => (sat_bad h).elim, fun h => (sat_bad h).elim⟩
theorem sat_mono {o : Out α} {P Q : α → Bag → Prop} (h : Sat o P) (w : ∀ a B, P a B → Q a B) : Sat o Q := by
  cases o with
  | ok a B => exact sat_ok (w a B (sat_of h))
  | bad => exact (sat_bad h).elim
/-! expressions -/
theorem sat_var (h : ρ[i]? = some (some (.sh d))) (q : Q (.sh d) B) : Sat (eVar i ρ B) Q := by unfold eVar; rw [h]; exact sat_ok q
theorem sat_varB (h : ρ[i]? = some (some .bg)) (q : Q .bg B) : Sat (eVar i ρ B) Q := by unfold eVar; rw [h]; exact sat_ok q
theorem sat_c (q : Q (.sh d) B) : Sat (eC d ρ B) Q := sat_ok q
def G1 (g : PyData → Option EV) (e1 : EV) (B : Bag) (Q : EV → Bag → Prop) : Prop := ∃ d1 e, e1.data = some d1 ∧ g d1 = some e ∧ Q e B
def G2 (g : PyData → PyData → Option EV) (e1 e2 : EV) (B : Bag) (Q : EV → Bag → Prop) : Prop := ∃ d1 d2 e, e1.data = some d1 ∧ e2.data = some d2 ∧ g d1 d2 = some e ∧ Q e B
def GA (g : List PyData → Option EV) (es : List EV) (B : Bag) (Q : EV → Bag → Prop) : Prop := ∃ ds e, dataAll es = some ds ∧ g ds = some e ∧ Q e B
theorem sat_un {g : PyData → Option EV} (h : Sat (m ρ B) fun e B => G1 g e B Q) : Sat (eUn g m ρ B) Q := by
  unfold eUn
  rw [sat_bind]
  refine sat_mono h fun e B ⟨d1, e', h1, h2, q⟩ => ?_
  rw [h1, Option.bind_some, h2]; exact sat_ok q
theorem sat_bin {g : PyData → PyData → Option EV} (h : Sat (m1 ρ B) fun e1 B1 => Sat (m2 ρ B1) fun e2 B2 => G2 g e1 e2 B2 Q) : Sat (eBin g m1 m2 ρ B) Q := by
  unfold eBin
  rw [sat_bind]
  refine sat_mono h fun e1 B1 h => ?_
  rw [sat_bind]
  refine sat_mono h fun e2 B2 ⟨d1, d2, e, h1, h2, h3, q⟩ => ?_
  rw [h1, h2, Option.bind_some, Option.bind_some, h3]; exact sat_ok q
theorem sat_if' (h : Sat (t ρ B) fun k B1 => (k = true → Sat (m1 ρ B1) Q) ∧ (k = false → Sat (m2 ρ B1) Q)) : Sat (eIf t m1 m2 ρ B) Q := by
  unfold eIf
  rw [sat_bind]
  refine sat_mono h fun k B1 ⟨h1, h2⟩ => ?_
  cases k
  · exact h2 rfl
  · exact h1 rfl
theorem sat_and (h : Sat (m1 ρ B) fun e B1 => ∃ k, e = .sh (.bool k) ∧ (k = true → Sat (m2 ρ B1) Q) ∧ (k = false → Q (.sh (.bool false)) B1)) : Sat (eAnd m1 m2 ρ B) Q := by
  unfold eAnd
  rw [sat_bind]
  refine sat_mono h fun e B1 ⟨k, he, h1, h2⟩ => ?_
  subst he
  cases k
  · exact sat_ok (h2 rfl)
  · exact h1 rfl
theorem sat_or (h : Sat (m1 ρ B) fun e B1 => ∃ k, e = .sh (.bool k) ∧ (k = false → Sat (m2 ρ B1) Q) ∧ (k = true → Q (.sh (.bool true)) B1)) : Sat (eOr m1 m2 ρ B) Q := by
  unfold eOr
  rw [sat_bind]
  refine sat_mono h fun e B1 ⟨k, he, h1, h2⟩ => ?_
  subst he
  cases k
  · exact h1 rfl
  · exact sat_ok (h2 rfl)
theorem sat_not (h : Sat (m1 ρ B) fun e B1 => ∃ k, e = .sh (.bool k) ∧ Q (.sh (.bool (!k))) B1) : Sat (eNot m1 ρ B) Q := by
  unfold eNot
  rw [sat_bind]
  refine sat_mono h fun e B1 ⟨k, he, h1⟩ => ?_
  subst he
  exact sat_ok h1
theorem sat_tup (h : Sat (ms ρ B) fun es B1 => ∃ ds, dataAll es = some ds ∧ ds.length ≤ sizeLine ∧ Q (.sh (.tuple ds)) B1) : Sat (eTup ms ρ B) Q := by
  unfold eTup
  rw [sat_bind]
  refine sat_mono h fun es B1 ⟨ds, h1, h2, q⟩ => ?_
  rw [h1]
  show Sat (if ds.length ≤ sizeLine then _ else _) Q
  rw [if_pos h2]; exact sat_ok q
theorem sat_lst (h : Sat (ms ρ B) fun es B1 => ∃ ds, dataAll es = some ds ∧ ds.length ≤ sizeLine ∧ Q (.ow (.list ds)) B1) : Sat (eLst ms ρ B) Q := by
  unfold eLst
  rw [sat_bind]
  refine sat_mono h fun es B1 ⟨ds, h1, h2, q⟩ => ?_
  rw [h1]
  show Sat (if ds.length ≤ sizeLine then _ else _) Q
  rw [if_pos h2]; exact sat_ok q
theorem sat_call {n : Nat} {f : FM} (h : Sat (ms ρ B) fun es B1 => es.length = n ∧ Sat (f es B1) Q) : Sat (eCall n f ms ρ B) Q := by
  unfold eCall
  rw [sat_bind]
  refine sat_mono h fun es B1 ⟨h1, q⟩ => ?_
  rw [if_pos h1]; exact q
theorem sat_cb {g : List PyData → Option EV} (h : Sat (ms ρ B) fun es B1 => GA g es B1 Q) : Sat (eCB g ms ρ B) Q := by
  unfold eCB
  rw [sat_bind]
  refine sat_mono h fun es B1 ⟨ds, e, h1, h2, q⟩ => ?_
  rw [h1, Option.bind_some, h2]; exact sat_ok q
theorem sat_sl {ol oh : OM} (h : Sat (m ρ B) fun e B1 => Sat (ol ρ B1) fun l B2 => Sat (oh ρ B2) fun h B3 => G1 (gSl l h) e B3 Q) : Sat (eSl m ol oh ρ B) Q := by
  unfold eSl
  rw [sat_bind]
  refine sat_mono h fun e B1 h => ?_
  rw [sat_bind]
  refine sat_mono h fun l B2 h => ?_
  rw [sat_bind]
  refine sat_mono h fun l' B3 ⟨d1, e', h1, h2, q⟩ => ?_
  rw [h1, Option.bind_some, h2]; exact sat_ok q
theorem sat_oNone {Q : Option Int → Bag → Prop} (q : Q none B) : Sat (oNone ρ B) Q := sat_ok q
theorem sat_oSome {Q : Option Int → Bag → Prop} (h : Sat (m ρ B) fun e B1 => ∃ i, e = .sh (.int i) ∧ Q (some i) B1) : Sat (oSome m ρ B) Q := by
  unfold oSome
  rw [sat_bind]
  refine sat_mono h fun e B1 ⟨i, he, q⟩ => ?_
  subst he; exact sat_ok q
theorem sat_chain {g g2 : PyData → PyData → Option EV} (h : Sat (m1 ρ B) fun e1 B1 => Sat (m2 ρ B1) fun e2 B2 => ∃ d1 d2 k, e1.data = some d1 ∧ e2.data = some d2 ∧ g d1 d2 = some (.sh (.bool k)) ∧ (k = true → Sat (m3 ρ B2) fun e3 B3 => G2 g2 (.sh d2) e3 B3 Q) ∧ (k = false → Q (.sh (.bool false)) B2)) :
    Sat (eChain g g2 m1 m2 m3 ρ B) Q := by
  unfold eChain
  rw [sat_bind]
  refine sat_mono h fun e1 B1 h => ?_
  rw [sat_bind]
  refine sat_mono h fun e2 B2 ⟨d1, d2, k, h1, h2, h3, q1, q2⟩ => ?_
  simp only [h1, h2, Option.bind_some, h3]
  cases k
  · exact sat_ok (q2 rfl)
  · have := q1 rfl
    show Sat ((m3 ρ B2).bind _) Q
    rw [sat_bind]
    refine sat_mono this fun e3 B3 ⟨d, d3, e, a1, a2, a3, q⟩ => ?_
    cases a1
    simp only [a2, Option.bind_some, a3]
    exact sat_ok q
theorem sat_lr1 (h : Sat (m ρ B) fun e B1 => ∃ n : Int, e = .sh (.int n) ∧ (n - 0).toNat ≤ 2 ^ 24 ∧ Q (.ow (.list (rangeD 0 n))) B1) : Sat (eLR1 m ρ B) Q := by
  unfold eLR1
  rw [sat_bind]
  refine sat_mono h fun e B1 ⟨n, he, h2, q⟩ => ?_
  subst he
  show Sat (rgE 0 n B1) Q
  unfold rgE
  rw [if_pos h2]; exact sat_ok q
theorem sat_lr2 (h : Sat (m1 ρ B) fun e1 B1 => Sat (m2 ρ B1) fun e2 B2 => ∃ lo hi : Int, e1 = .sh (.int lo) ∧ e2 = .sh (.int hi) ∧ (hi - lo).toNat ≤ 2 ^ 24 ∧ Q (.ow (.list (rangeD lo hi))) B2) : Sat (eLR2 m1 m2 ρ B) Q := by
  unfold eLR2
  rw [sat_bind]
  refine sat_mono h fun e1 B1 h => ?_
  rw [sat_bind]
  refine sat_mono h fun e2 B2 ⟨lo, hi, h1, h2, h3, q⟩ => ?_
  subst h1 h2
  show Sat (rgE lo hi B2) Q
  unfold rgE
  rw [if_pos h3]; exact sat_ok q
theorem sat_scal {is : List Nat} (h : Sat (m (frzE ρ is) B) fun e B1 => ∃ d, e = .sh d ∧ scalD d = true ∧ Q (.sh d) B1) : Sat (eScal is m ρ B) Q := by
  unfold eScal
  rw [sat_bind]
  refine sat_mono h fun e B1 ⟨d, he, h1, q⟩ => ?_
  subst he
  show Sat (if scalD d = true then _ else _) Q
  rw [if_pos h1]; exact sat_ok q
theorem sat_ixO {ds : List PyData} (hi : ρ[i]? = some (some (.ow (.list ds)))) (h : Sat (m ρ B) fun e B1 => ∃ j d, e = .sh (.int j) ∧ atI ds j = some d ∧ Q (.sh d) B1) : Sat (eIxV i m ρ B) Q := by
  unfold eIxV isOw
  simp only [hi, if_true]
  unfold eIxO
  rw [sat_bind]
  refine sat_mono h fun e B1 ⟨j, d, he, h1, q⟩ => ?_
  subst he
  simp only [intOf, hi, h1]
  exact sat_ok q
theorem sat_ixS (hi : ρ[i]? = some (some (.sh d))) (h : Sat (eBin gIx (eVar i) m ρ B) Q) : Sat (eIxV i m ρ B) Q := by
  unfold eIxV isOw
  simp only [hi]
  exact h
/-! tests -/
theorem sat_tb (h : Sat (m ρ B) fun e B1 => ∃ k, e = .sh (.bool k) ∧ QT k B1) : Sat (tBool m ρ B) QT := by
  unfold tBool
  rw [sat_bind]
  refine sat_mono h fun e B1 ⟨k, he, h1⟩ => ?_
  subst he
  exact sat_ok h1
theorem sat_tv (h : Sat (m ρ B) fun e B1 => ∃ d k, e.data = some d ∧ truD d = some k ∧ QT k B1) : Sat (tVal m ρ B) QT := by
  unfold tVal
  rw [sat_bind]
  refine sat_mono h fun e B1 ⟨d, k, he, h1, q⟩ => ?_
  rw [he, Option.bind_some, h1]
  exact sat_ok q
theorem sat_tn (h : Sat (t ρ B) fun k B1 => QT (!k) B1) : Sat (tNotM t ρ B) QT := by
  unfold tNotM
  rw [sat_bind]
  exact sat_mono h fun _ _ q => sat_ok q
theorem sat_ta (h : Sat (t1 ρ B) fun k B1 => (k = true → Sat (t2 ρ B1) QT) ∧ (k = false → QT false B1)) : Sat (tAndM t1 t2 ρ B) QT := by
  unfold tAndM
  rw [sat_bind]
  refine sat_mono h fun k B1 ⟨h1, h2⟩ => ?_
  cases k
  · exact sat_ok (h2 rfl)
  · exact h1 rfl
theorem sat_to (h : Sat (t1 ρ B) fun k B1 => (k = false → Sat (t2 ρ B1) QT) ∧ (k = true → QT true B1)) : Sat (tOrM t1 t2 ρ B) QT := by
  unfold tOrM
  rw [sat_bind]
  refine sat_mono h fun k B1 ⟨h1, h2⟩ => ?_
  cases k
  · exact h1 rfl
  · exact sat_ok (h2 rfl)
theorem sat_ts {is : List Nat} (h : Sat (t (frzE ρ is) B) QT) : Sat (tScal is t ρ B) QT := h
/-! arguments -/
theorem sat_nil (q : QA [] B) : Sat (aNil ρ B) QA := sat_ok q
theorem sat_cons (h : Sat (m ρ B) fun e B1 => Sat (ms ρ B1) fun es B2 => QA (e.share :: es) B2) : Sat (aCons m ms ρ B) QA := by
  unfold aCons
  rw [sat_bind]
  refine sat_mono h fun e B1 h => ?_
  rw [sat_bind]
  exact sat_mono h fun _ _ q => sat_ok q
/-! what is walked -/
theorem sat_iv (h : Sat (m ρ B) fun e B1 => ∃ d ds, e.data = some d ∧ itemsD d = some ds ∧ QI ds B1) : Sat (iVal m ρ B) QI := by
  unfold iVal
  rw [sat_bind]
  refine sat_mono h fun e B1 ⟨d, ds, he, h1, q⟩ => ?_
  rw [he, Option.bind_some, h1]
  exact sat_ok q
theorem sat_ir (h : Sat (ms ρ B) fun es B1 => ∃ n : Int, es = [.sh (.int n)] ∧ -(2 ^ 62) ≤ n ∧ n < 2 ^ 62 ∧ QI (rangeD 0 n) B1) : Sat (iRange ms ρ B) QI := by
  unfold iRange
  rw [sat_bind]
  refine sat_mono h fun es B1 ⟨n, he, h1, h2, q⟩ => ?_
  subst he
  simp only [one]
  first
  | exact sat_ok q
  | (rw [if_pos ⟨h1, h2⟩]; exact sat_ok q)
  | (rw [if_pos h2]; exact sat_ok q)
/-! statements -/
def SeqK (m2 : SM) (Q : Flow → Bag → Prop) : Flow → Bag → Prop
  | .nx ρ1, B1 => Sat (m2 ρ1 B1) Q
  | fl, B1 => Q fl B1
theorem sat_seq {m1 m2 : SM} (h : Sat (m1 ρ B) (SeqK m2 QS)) : Sat (sSeq m1 m2 ρ B) QS := by
  unfold sSeq
  cases h1 : m1 ρ B with
  | bad => rw [h1] at h; exact (sat_bad h).elim
  | ok fl B1 =>
    rw [h1] at h
    cases fl <;> first | exact sat_of (Q := SeqK m2 QS) h | exact sat_ok (sat_of (Q := SeqK m2 QS) h)
theorem seqK_nx {m2 : SM} (h : Sat (m2 ρ B) QS) : SeqK m2 QS (.nx ρ) B := h
theorem seqK_rt {m2 : SM} (h : QS (.rt e) B) : SeqK m2 QS (.rt e) B := h
theorem sat_skip (h : QS (.nx ρ) B) : Sat (sSkip ρ B) QS := sat_ok h
theorem sat_set (h : Sat (m ρ B) fun e B1 => i < ρ.length ∧ QS (.nx (ρ.set i (some e))) B1) : Sat (sSet i m ρ B) QS := by
  unfold sSet
  rw [sat_bind]
  refine sat_mono h fun e B1 ⟨h1, q⟩ => ?_
  rw [if_pos h1]; exact sat_ok q
theorem sat_setS (h : Sat (m ρ B) fun e B1 => i < ρ.length ∧ QS (.nx (ρ.set i (some e.share))) B1) : Sat (sSetS i m ρ B) QS := by
  unfold sSetS
  rw [sat_bind]
  refine sat_mono h fun e B1 ⟨h1, q⟩ => ?_
  rw [if_pos h1]; exact sat_ok q
theorem sat_unp {f : PyData → Env → Option Env} (h : Sat (m ρ B) fun e B1 => ∃ d ρ1, e.data = some d ∧ f d ρ = some ρ1 ∧ QS (.nx ρ1) B1) : Sat (sUnp f m ρ B) QS := by
  unfold sUnp
  rw [sat_bind]
  refine sat_mono h fun e B1 ⟨d, ρ1, h1, h2, q⟩ => ?_
  rw [h1, Option.bind_some, h2]; exact sat_ok q
theorem sat_sif {m1 m2 : SM} (h : Sat (t ρ B) fun k B1 => (k = true → Sat (m1 ρ B1) QS) ∧ (k = false → Sat (m2 ρ B1) QS)) : Sat (sIf t m1 m2 ρ B) QS := by
  unfold sIf
  rw [sat_bind]
  refine sat_mono h fun k B1 ⟨h1, h2⟩ => ?_
  cases k
  · exact h2 rfl
  · exact h1 rfl
theorem sat_ret (h : Sat (m ρ B) fun e B1 => QS (.rt e) B1) : Sat (sRet m ρ B) QS := by
  unfold sRet
  rw [sat_bind]
  exact sat_mono h fun _ _ q => sat_ok q
theorem sat_retO {d : PyData} (h : ρ[i]? = some (some (.ow d))) (q : QS (.rt (.ow d)) B) : Sat (sRetO i ρ B) QS := by
  unfold sRetO
  rw [h]; exact sat_ok q
theorem sat_retS {d : PyData} (h : ρ[i]? = some (some (.sh d))) (q : QS (.rt (.sh d)) B) : Sat (sRetO i ρ B) QS := by
  unfold sRetO
  rw [h]; exact sat_ok q
theorem sat_expr (h : Sat (m ρ B) fun e B1 => QS (.nx ρ) B1) : Sat (sExpr m ρ B) QS := by
  unfold sExpr
  rw [sat_bind]
  exact sat_mono h fun _ _ q => sat_ok q
theorem sat_par2 (h : Sat (m1 ρ B) fun e1 B1 => Sat (m2 ρ B1) fun e2 B2 => (i < ρ.length ∧ j < ρ.length) ∧ QS (.nx ((ρ.set i (some e1)).set j (some e2))) B2) : Sat (sPar2 i j m1 m2 ρ B) QS := by
  unfold sPar2
  rw [sat_bind]
  refine sat_mono h fun e B1 h => ?_
  rw [sat_bind]
  refine sat_mono h fun e B1 ⟨h1, q⟩ => ?_
  rw [if_pos h1]; exact sat_ok q
theorem sat_par3 (h : Sat (m1 ρ B) fun e1 B1 => Sat (m2 ρ B1) fun e2 B2 => Sat (m3 ρ B2) fun e3 B3 => (i < ρ.length ∧ j < ρ.length ∧ k < ρ.length) ∧ QS (.nx (((ρ.set i (some e1)).set j (some e2)).set k (some e3))) B3) : Sat (sPar3 i j k m1 m2 m3 ρ B) QS := by
  unfold sPar3
  rw [sat_bind]
  refine sat_mono h fun e B1 h => ?_
  rw [sat_bind]
  refine sat_mono h fun e B1 h => ?_
  rw [sat_bind]
  refine sat_mono h fun e B1 ⟨h1, q⟩ => ?_
  rw [if_pos h1]; exact sat_ok q
def FrzK (is : List Nat) (Q : Flow → Bag → Prop) : Flow → Bag → Prop
  | .nx ρ1, B1 => Q (.nx (frzE ρ1 is)) B1
  | fl, B1 => Q fl B1
theorem sat_frz {is : List Nat} {m : SM} (h : Sat (m (frzE ρ is) B) QS) : Sat (sFrz is m ρ B) QS := h
theorem sat_app {ds : List PyData} (hi : ρ[i]? = some (some (.ow (.list ds)))) (h : Sat (m ρ B) fun e B1 => ∃ d, e.data = some d ∧ ds.length < sizeLine ∧ QS (.nx (ρ.set i (some (.ow (.list (ds ++ [d])))))) B1) : Sat (sApp i m ρ B) QS := by
  unfold sApp
  rw [sat_bind]
  refine sat_mono h fun e B1 ⟨d, h1, h2, q⟩ => ?_
  simp only [h1, hi]
  rw [if_pos h2]; exact sat_ok q
theorem sat_ext {ds : List PyData} (hi : ρ[i]? = some (some (.ow (.list ds)))) (h : Sat (m ρ B) fun e B1 => ∃ zs, e.data = some (.list zs) ∧ ds.length + zs.length ≤ sizeLine ∧ QS (.nx (ρ.set i (some (.ow (.list (ds ++ zs)))))) B1) : Sat (sExt i m ρ B) QS := by
  unfold sExt
  rw [sat_bind]
  refine sat_mono h fun e B1 ⟨d, h1, h2, q⟩ => ?_
  simp only [h1, hi]
  rw [if_pos h2]; exact sat_ok q
theorem sat_aug {f : Int → Int → Int} {n : Int} (hi : ρ[i]? = some (some (.sh (.int n)))) (h : Sat (m ρ B) fun e B1 => ∃ z, e = .sh (.int z) ∧ i < ρ.length ∧ QS (.nx (ρ.set i (some (.sh (.int (f n z)))))) B1) : Sat (sAug i f m ρ B) QS := by
  unfold sAug
  simp only [hi]
  rw [sat_bind]
  refine sat_mono h fun e B1 ⟨d, h1, h2, q⟩ => ?_
  subst h1
  first
  | exact sat_ok q
  | (simp only [intOf]; exact sat_ok q)
  | (simp only [intOf]; rw [if_pos h2]; exact sat_ok q)
/-- a loop by its invariant -/
theorem sat_forL {f : PyData → Env → Option Env} {body : SM} (I : Nat → Env → Bag → Prop) (ds : List PyData) :
    ∀ (n : Nat) (ρ : Env) (B : Bag), I n ρ B → (∀ k d ρ' B', (ds[k]?) = some d → I (n + k) ρ' B' → ∃ ρ1, f d ρ' = some ρ1 ∧ Sat (body ρ1 B') fun fl B2 => match fl with
      | .nx ρ2 => I (n + k + 1) ρ2 B2
      | .ct ρ2 => I (n + k + 1) ρ2 B2
      | .bk ρ2 => QS (.nx ρ2) B2
      | .rt e => QS (.rt e) B2) → (∀ ρ' B', I (n + ds.length) ρ' B' → QS (.nx ρ') B') → Sat (forL f body ds ρ B) QS := by
  induction ds with
  | nil => intro n ρ B h0 _ hd; exact sat_ok (hd ρ B h0)
  | cons d ds ih =>
    intro n ρ B h0 hs hd
    obtain ⟨ρ1, e1, st⟩ := hs 0 d ρ B rfl h0
    obtain ⟨fl, B2, e2, q⟩ := sat_inv st
    have go : ∀ ρ2, I (n + 1) ρ2 B2 → Sat (forL f body ds ρ2 B2) QS := fun ρ2 h => ih (n + 1) ρ2 B2 h
      (fun k d' ρ' B' hk hI => by
        have := hs (k + 1) d' ρ' B' hk (by rw [show n + (k + 1) = n + 1 + k by omega]; exact hI)
        rw [show n + (k + 1) + 1 = n + 1 + k + 1 by omega] at this
        exact this)
      (fun ρ' B' hI => hd ρ' B' (by rw [List.length_cons, show n + (ds.length + 1) = n + 1 + ds.length by omega]; exact hI))
    unfold forL
    simp only [e1, e2]
    cases fl with
    | nx ρ2 => exact go ρ2 q
    | ct ρ2 => exact go ρ2 q
    | bk ρ2 => exact sat_ok q
    | rt e => exact sat_ok q
def ForK (I : Nat → Env → Bag → Prop) (n : Nat) (Q : Flow → Bag → Prop) : Flow → Bag → Prop
  | .nx ρ2, B2 => I n ρ2 B2
  | .ct ρ2, B2 => I n ρ2 B2
  | .bk ρ2, B2 => Q (.nx ρ2) B2
  | .rt e, B2 => Q (.rt e) B2
theorem forK_nx {I : Nat → Env → Bag → Prop} {n : Nat} (h : I n ρ B) : ForK I n QS (.nx ρ) B := h
theorem forK_rt {I : Nat → Env → Bag → Prop} {n : Nat} (h : QS (.rt e) B) : ForK I n QS (.rt e) B := h
theorem sat_for {mi : IM} {f : PyData → Env → Option Env} {body : SM} (I : Nat → Env → Bag → Prop) (h : Sat (mi ρ B) fun ds B1 => I 0 ρ B1 ∧
    (∀ k d ρ' B', (ds[k]?) = some d → I k ρ' B' → ∃ ρ1, f d ρ' = some ρ1 ∧ Sat (body ρ1 B') (ForK I (k + 1) QS)) ∧ ∀ ρ' B', I ds.length ρ' B' → QS (.nx ρ') B') : Sat (sFor mi f body ρ B) QS := by
  unfold sFor
  rw [sat_bind]
  refine sat_mono h fun ds B1 ⟨h0, hs, hd⟩ => ?_
  refine sat_forL I ds 0 ρ B1 h0 (fun k d ρ' B' hk hI => ?_) (fun ρ' B' hI => hd ρ' B' (by rwa [Nat.zero_add] at hI))
  rw [Nat.zero_add] at hI
  obtain ⟨ρ1, e1, st⟩ := hs k d ρ' B' hk hI
  refine ⟨ρ1, e1, sat_mono st fun fl B2 q => ?_⟩
  rw [Nat.zero_add]
  cases fl <;> exact q
/-! comprehensions -/
theorem sat_compL {f : PyData → Env → Option Env} {tt : TM} {me : EM} {Q : List PyData → Bag → Prop} (I : Nat → List PyData → Bag → Prop) (ρ : Env) : ∀ (ds : List PyData) (n : Nat) (acc : List PyData) (B : Bag), acc.length + ds.length ≤ sizeLine → I n acc B →
    (∀ k d acc B, (ds[k]?) = some d → I (n + k) acc B → ∃ ρ1, f d ρ = some ρ1 ∧ Sat (tt ρ1 B) fun b B1 => (b = true → Sat (me ρ1 B1) fun e B2 => ∃ x, e.data = some x ∧ I (n + k + 1) (acc ++ [x]) B2) ∧ (b = false → I (n + k + 1) acc B1)) →
    (∀ acc B, I (n + ds.length) acc B → Q acc B) → Sat (compL f tt me ds ρ acc B) Q
  | [], n, acc, B, _, h0, _, hd => sat_ok (hd acc B h0)
  | d :: ds, n, acc, B, hl, h0, hs, hd => by
    obtain ⟨ρ1, e1, st⟩ := hs 0 d acc B rfl h0
    have go : ∀ acc' B', acc'.length ≤ acc.length + 1 → I (n + 1) acc' B' → Sat (compL f tt me ds ρ acc' B') Q := fun acc' B' hl' h => sat_compL I ρ ds (n + 1) acc' B' (by rw [List.length_cons] at hl; omega) h
      (fun k d' acc B hk hI => by
        have := hs (k + 1) d' acc B hk (by rw [show n + (k + 1) = n + 1 + k by omega]; exact hI)
        rw [show n + (k + 1) + 1 = n + 1 + k + 1 by omega] at this
        exact this)
      (fun acc B hI => hd acc B (by rw [List.length_cons, show n + (ds.length + 1) = n + 1 + ds.length by omega]; exact hI))
    unfold compL
    simp only [e1]
    rw [sat_bind]
    refine sat_mono st fun b B1 ⟨h1, h2⟩ => ?_
    cases b with
    | false => exact go acc B1 (by omega) (h2 rfl)
    | true =>
      rw [if_pos rfl, sat_bind]
      refine sat_mono (h1 rfl) fun e B2 ⟨x, hx, hI⟩ => ?_
      simp only [hx]
      rw [if_pos (by rw [List.length_cons] at hl; omega)]
      exact go _ B2 (by simp) hI
/-- one that draws nothing -/
theorem sat_compM {vs : List Nat} {mi : IM} {f : PyData → Env → Option Env} {me : EM} (F : PyData → PyData) (h : Sat (mi ρ B) fun ds B1 => ds.length ≤ sizeLine ∧ (∀ d ∈ ds, ∃ ρ1, f d (wipeE ρ vs) = some ρ1 ∧ Sat (me ρ1 B1) fun e B2 => B2 = B1 ∧ e.data = some (F d)) ∧ Q (.ow (.list (ds.map F))) B1) :
    Sat (eComp vs mi f tYesM me ρ B) Q := by
  unfold eComp
  rw [sat_bind]
  refine sat_mono h fun ds B1 ⟨hl, hs, q⟩ => ?_
  rw [sat_bind]
  refine sat_compL (fun n acc B2 => B2 = B1 ∧ acc = (ds.take n).map F) _ ds 0 [] B1 (by simpa using hl) ⟨rfl, by simp⟩ (fun k d acc B2 hk hI => ?_) (fun acc B2 hI => ?_)
  · obtain ⟨rfl, rfl⟩ := hI
    obtain ⟨ρ1, e1, st⟩ := hs d (List.mem_of_getElem? hk)
    refine ⟨ρ1, e1, sat_ok (a := true) (B := B2) ⟨fun _ => sat_mono st fun e B3 ⟨hb, he⟩ => ?_, fun z => nomatch z⟩⟩
    subst hb
    refine ⟨_, he, rfl, ?_⟩
    simp only [Nat.zero_add]
    rw [List.take_add_one, hk, List.map_append]
    rfl
  · obtain ⟨rfl, rfl⟩ := hI
    rw [Nat.zero_add, List.take_length]
    exact sat_ok q
/-- .. with a test -/
theorem sat_compF {vs : List Nat} {mi : IM} {f : PyData → Env → Option Env} {tt : TM} {me : EM} (F : PyData → PyData) (p : PyData → Bool) (h : Sat (mi ρ B) fun ds B1 => ds.length ≤ sizeLine ∧ (∀ d ∈ ds, ∃ ρ1, f d (wipeE ρ vs) = some ρ1 ∧ Sat (tt ρ1 B1) fun b B2 => B2 = B1 ∧ b = p d ∧ (b = true → Sat (me ρ1 B1) fun e B2 => B2 = B1 ∧ e.data = some (F d))) ∧ Q (.ow (.list ((ds.filter p).map F))) B1) :
    Sat (eComp vs mi f tt me ρ B) Q := by
  unfold eComp
  rw [sat_bind]
  refine sat_mono h fun ds B1 ⟨hl, hs, q⟩ => ?_
  rw [sat_bind]
  refine sat_compL (fun n acc B2 => B2 = B1 ∧ acc = ((ds.take n).filter p).map F) _ ds 0 [] B1 (by simpa using hl) ⟨rfl, by simp⟩ (fun k d acc B2 hk hI => ?_) (fun acc B2 hI => ?_)
  · obtain ⟨rfl, rfl⟩ := hI
    obtain ⟨ρ1, e1, st⟩ := hs d (List.mem_of_getElem? hk)
    refine ⟨ρ1, e1, sat_mono st fun b B3 ⟨hb, hp, he⟩ => ?_⟩
    subst hb
    simp only [Nat.zero_add]
    refine ⟨fun hb => sat_mono (he hb) fun e B4 ⟨hb4, he4⟩ => ?_, fun hb => ⟨trivial, ?_⟩⟩
    · subst hb4
      refine ⟨_, he4, rfl, ?_⟩
      rw [List.take_add_one, hk, List.filter_append, List.map_append]
      simp [← hp, hb]
    · rw [List.take_add_one, hk, List.filter_append, List.map_append]
      simp [← hp, hb]
  · obtain ⟨rfl, rfl⟩ := hI
    rw [Nat.zero_add, List.take_length]
    exact sat_ok q
/-- .. with draws: all items are P -/
theorem sat_compP {vs : List Nat} {mi : IM} {f : PyData → Env → Option Env} {me : EM} (P : PyData → Prop) (h : Sat (mi ρ B) fun ds B1 => BagOk B1 ∧ ds.length ≤ sizeLine ∧ (∀ d ∈ ds, ∀ B2, BagOk B2 → ∃ ρ1, f d (wipeE ρ vs) = some ρ1 ∧ Sat (me ρ1 B2) fun e B3 => BagOk B3 ∧ ∃ x, e.data = some x ∧ P x) ∧ ∀ xs B2, BagOk B2 → xs.length = ds.length → (∀ x ∈ xs, P x) → Q (.ow (.list xs)) B2) :
    Sat (eComp vs mi f tYesM me ρ B) Q := by
  unfold eComp
  rw [sat_bind]
  refine sat_mono h fun ds B1 ⟨ok, hl, hs, q⟩ => ?_
  rw [sat_bind]
  refine sat_compL (fun n acc B2 => BagOk B2 ∧ acc.length = n ∧ ∀ x ∈ acc, P x) _ ds 0 [] B1 (by simpa using hl) ⟨ok, rfl, by simp⟩ (fun k d acc B2 hk hI => ?_) (fun acc B2 hI => ?_)
  · obtain ⟨ok2, hl2, hp⟩ := hI
    obtain ⟨ρ1, e1, st⟩ := hs d (List.mem_of_getElem? hk) B2 ok2
    refine ⟨ρ1, e1, sat_ok (a := true) (B := B2) ⟨fun _ => sat_mono st fun e B3 ⟨hb, x, hx, px⟩ => ⟨x, hx, hb, by simp; omega, fun y hy => ?_⟩, fun z => nomatch z⟩⟩
    rcases List.mem_append.mp hy with z | z
    · exact hp y z
    · rw [List.mem_singleton.mp z]; exact px
  · obtain ⟨ok2, hl2, hp⟩ := hI
    exact sat_ok (q acc B2 ok2 (by omega) hp)
/-! defs -/
def FnK (Q : EV → Bag → Prop) : Flow → Bag → Prop
  | .rt e, B => Q e B
  | .nx _, B => Q (.sh .none) B
  | _, _ => False
theorem fnK_rt (h : Q e B) : FnK Q (.rt e) B := h
theorem fnK_nx (h : Q (.sh .none) B) : FnK Q (.nx ρ) B := h
theorem sat_fn {n : Nat} {ms : SM} {es : List EV} (he : es.map some ++ List.replicate (n - es.length) none = ρ) (h : Sat (ms ρ B) (FnK Q)) : Sat (mfn n ms es B) Q := by
  unfold mfn
  rw [he]
  cases h1 : ms ρ B with
  | bad => rw [h1] at h; exact (sat_bad h).elim
  | ok fl B1 =>
    rw [h1] at h
    cases fl <;> first | exact sat_ok (sat_of (Q := FnK Q) h) | exact (sat_of (Q := FnK Q) h).elim
theorem sat_frzA {is : List Nat} {m : SM} (h : Sat (m ρ B) (FrzK is QS)) : Sat (sFrzA is m ρ B) QS := by
  unfold sFrzA
  cases h1 : m ρ B with
  | bad => rw [h1] at h; exact (sat_bad h).elim
  | ok fl B1 =>
    rw [h1] at h
    cases fl <;> exact sat_ok (sat_of (Q := FrzK is QS) h)
theorem share_sh : (EV.sh d).share = .sh d := rfl
theorem share_ow : (EV.ow d).share = .sh d := rfl
theorem share_bg : EV.bg.share = .bg := rfl
theorem data_sh : (EV.sh d).data = some d := rfl
theorem data_ow : (EV.ow d).data = some d := rfl
theorem frzE_nil : frzE ρ [] = ρ := rfl
theorem frzE_cons {is : List Nat} : frzE ρ (i :: is) = frzE (frz1 ρ i) is := rfl
theorem frz1_z {r : Env} : frz1 (some (.ow d) :: r) 0 = some (.sh d) :: r := rfl
theorem frz1_zs {r : Env} : frz1 (some (.sh d) :: r) 0 = some (.sh d) :: r := rfl
theorem frz1_s {a : Option EV} {r : Env} : frz1 (a :: r) (i + 1) = a :: frz1 r i := by
  unfold frz1
  rw [List.getElem?_cons_succ]
  cases h : r[i]? with
  | none => rfl
  | some o =>
    cases o with
    | none => rfl
    | some e => cases e <;> rfl
theorem wipeE_nil : wipeE ρ [] = ρ := rfl
theorem wipeE_cons {vs : List Nat} : wipeE ρ (i :: vs) = (wipeE ρ vs).set i none := rfl
theorem frzK_nx {is : List Nat} (h : QS (.nx (frzE ρ is)) B) : FrzK is QS (.nx ρ) B := h
theorem len_and {n : Nat} {l : List EV} {P : Prop} (h : l.length = n) (q : P) : l.length = n ∧ P := ⟨h, q⟩
theorem scal_and {P : Prop} (h : scalD d = true) (q : P) : scalD d = true ∧ P := ⟨h, q⟩
theorem lt_and {n m : Nat} {P : Prop} (h : Nat.ble (n + 1) m = true) (q : P) : n < m ∧ P := ⟨Nat.le_of_ble_eq_true h, q⟩
theorem lt2_and {n m k : Nat} {P : Prop} (h : (Nat.ble (n + 1) m && Nat.ble (k + 1) m) = true) (q : P) : (n < m ∧ k < m) ∧ P := by
  simp only [Bool.and_eq_true] at h
  exact ⟨⟨Nat.le_of_ble_eq_true h.1, Nat.le_of_ble_eq_true h.2⟩, q⟩
theorem lt3_and {n m k l : Nat} {P : Prop} (h : (Nat.ble (n + 1) m && (Nat.ble (k + 1) m && Nat.ble (l + 1) m)) = true) (q : P) : (n < m ∧ k < m ∧ l < m) ∧ P := by
  simp only [Bool.and_eq_true] at h
  exact ⟨⟨Nat.le_of_ble_eq_true h.1, Nat.le_of_ble_eq_true h.2.1, Nat.le_of_ble_eq_true h.2.2⟩, q⟩
theorem ds_and {es : List EV} {ds : List PyData} {P : List PyData → Prop} (h : dataAll es = some ds) (hl : Nat.ble ds.length 1000 = true) (q : P ds) : ∃ ds, dataAll es = some ds ∧ ds.length ≤ sizeLine ∧ P ds :=
  ⟨ds, h, Nat.le_trans (Nat.le_of_ble_eq_true hl) (by decide), q⟩
theorem gMin_str {x y : Str} : gMin [.str x, .str y] = some (.sh (.str (minS x y))) := rfl
theorem gMax_str {x y : Str} : gMax [.str x, .str y] = some (.sh (.str (maxS x y))) := rfl
/-! operators at work -/
theorem g2 {g : PyData → PyData → Option EV} (hg : g d1 d2 = some e) (q : Q e B) : G2 g (.sh d1) (.sh d2) B Q := ⟨d1, d2, e, rfl, rfl, hg, q⟩
theorem g2' {g : PyData → PyData → Option EV} (h1 : e1.data = some d1) (h2 : e2.data = some d2) (hg : g d1 d2 = some e) (q : Q e B) : G2 g e1 e2 B Q := ⟨d1, d2, e, h1, h2, hg, q⟩
theorem g1 {g : PyData → Option EV} (hg : g d1 = some e) (q : Q e B) : G1 g (.sh d1) B Q := ⟨d1, e, rfl, hg, q⟩
theorem ga {g : List PyData → Option EV} {es : List EV} {ds : List PyData} (h : dataAll es = some ds) (hg : g ds = some e) (q : Q e B) : GA g es B Q := ⟨ds, e, h, hg, q⟩
def R2 (g : PyData → PyData → Option EV) (d1 d2 : PyData) (B : Bag) (Q : EV → Bag → Prop) : Prop := ∃ e, g d1 d2 = some e ∧ Q e B
def R1 (g : PyData → Option EV) (d1 : PyData) (B : Bag) (Q : EV → Bag → Prop) : Prop := ∃ e, g d1 = some e ∧ Q e B
def RA (g : List PyData → Option EV) (ds : List PyData) (B : Bag) (Q : EV → Bag → Prop) : Prop := ∃ e, g ds = some e ∧ Q e B
theorem g2_ss {g : PyData → PyData → Option EV} (h : R2 g d1 d2 B Q) : G2 g (.sh d1) (.sh d2) B Q := let ⟨e, a, b⟩ := h; ⟨d1, d2, e, rfl, rfl, a, b⟩
theorem g2_so {g : PyData → PyData → Option EV} (h : R2 g d1 d2 B Q) : G2 g (.sh d1) (.ow d2) B Q := let ⟨e, a, b⟩ := h; ⟨d1, d2, e, rfl, rfl, a, b⟩
theorem g2_os {g : PyData → PyData → Option EV} (h : R2 g d1 d2 B Q) : G2 g (.ow d1) (.sh d2) B Q := let ⟨e, a, b⟩ := h; ⟨d1, d2, e, rfl, rfl, a, b⟩
theorem g2_oo {g : PyData → PyData → Option EV} (h : R2 g d1 d2 B Q) : G2 g (.ow d1) (.ow d2) B Q := let ⟨e, a, b⟩ := h; ⟨d1, d2, e, rfl, rfl, a, b⟩
theorem g1_s {g : PyData → Option EV} (h : R1 g d1 B Q) : G1 g (.sh d1) B Q := let ⟨e, a, b⟩ := h; ⟨d1, e, rfl, a, b⟩
theorem g1_o {g : PyData → Option EV} (h : R1 g d1 B Q) : G1 g (.ow d1) B Q := let ⟨e, a, b⟩ := h; ⟨d1, e, rfl, a, b⟩
theorem ga_0 {g : List PyData → Option EV} (h : RA g [] B Q) : GA g [] B Q := let ⟨e, a, b⟩ := h; ⟨[], e, rfl, a, b⟩
theorem ga_1 {g : List PyData → Option EV} (h : RA g [d1] B Q) : GA g [.sh d1] B Q := let ⟨e, a, b⟩ := h; ⟨[d1], e, rfl, a, b⟩
theorem ga_2 {g : List PyData → Option EV} (h : RA g [d1, d2] B Q) : GA g [.sh d1, .sh d2] B Q := let ⟨e, a, b⟩ := h; ⟨[d1, d2], e, rfl, a, b⟩
theorem ga_3 {g : List PyData → Option EV} (h : RA g [d, d1, d2] B Q) : GA g [.sh d, .sh d1, .sh d2] B Q := let ⟨e, a, b⟩ := h; ⟨[d, d1, d2], e, rfl, a, b⟩
theorem r2 {g : PyData → PyData → Option EV} (hg : g d1 d2 = some e) (q : Q e B) : R2 g d1 d2 B Q := ⟨e, hg, q⟩
theorem r1 {g : PyData → Option EV} (hg : g d1 = some e) (q : Q e B) : R1 g d1 B Q := ⟨e, hg, q⟩
theorem ra {g : List PyData → Option EV} {ds : List PyData} (hg : g ds = some e) (q : Q e B) : RA g ds B Q := ⟨e, hg, q⟩
theorem gEq_int {a b : Int} : gEq (.int a) (.int b) = some (.sh (.bool (decide (a = b)))) := by
  simp only [gEq, okD_int, Bool.and_self, if_true, eqv_int]
  congr 3
theorem gNe_int {a b : Int} : gNe (.int a) (.int b) = some (.sh (.bool (!decide (a = b)))) := by
  simp only [gNe, okD_int, Bool.and_self, if_true, eqv_int]
  congr 3
theorem gEq_str {a b : Str} : gEq (.str a) (.str b) = some (.sh (.bool (a == b))) := by
  simp only [gEq, okD_str, Bool.and_self, if_true, eqv_str]
theorem gNe_str {a b : Str} : gNe (.str a) (.str b) = some (.sh (.bool (!(a == b)))) := by
  simp only [gNe, okD_str, Bool.and_self, if_true, eqv_str]
theorem gLt_int {a b : Int} : gLt (.int a) (.int b) = some (.sh (.bool (decide (a < b)))) := by
  simp only [gLt, okC_int, if_true, lt_intD]
theorem gLe_int {a b : Int} : gLe (.int a) (.int b) = some (.sh (.bool (decide (a ≤ b)))) := by
  simp only [gLe, okC_int, if_true, lt_intD]
  congr 3
  by_cases h : a ≤ b <;> simp [h] <;> omega
theorem gGt_int {a b : Int} : gGt (.int a) (.int b) = some (.sh (.bool (decide (b < a)))) := by
  simp only [gGt, okC_int, if_true, lt_intD]
theorem gGe_int {a b : Int} : gGe (.int a) (.int b) = some (.sh (.bool (decide (b ≤ a)))) := by
  simp only [gGe, okC_int, if_true, lt_intD]
  congr 3
  by_cases h : b ≤ a <;> simp [h] <;> omega
theorem gLt_str {a b : Str} : gLt (.str a) (.str b) = some (.sh (.bool (decide (a.cps.toList < b.cps.toList)))) := by
  simp only [gLt, okC_str, if_true, lt_strD]
theorem gAdd_int {a b : Int} : gAdd (.int a) (.int b) = some (.sh (.int (a + b))) := rfl
theorem gSub_int {a b : Int} : Mr.gSub (.int a) (.int b) = some (.sh (.int (a - b))) := rfl
theorem gMul_l {a b : Int} (h : -(2 ^ 64) < a ∧ a < 2 ^ 64) : gMul (.int a) (.int b) = some (.sh (.int (a * b))) := by
  simp only [gMul]; rw [if_pos (.inl h)]
theorem gMul_r {a b : Int} (h : -(2 ^ 64) < b ∧ b < 2 ^ 64) : gMul (.int a) (.int b) = some (.sh (.int (a * b))) := by
  simp only [gMul]; rw [if_pos (.inr h)]
theorem gMod_int {a b : Int} (h : 0 < b) : gMod (.int a) (.int b) = some (.sh (.int (a % b))) := by
  simp only [gMod]; rw [if_pos h]
theorem gFdiv_int {a b : Int} (h : 0 < b) (h' : b < 2 ^ 64) : gFdiv (.int a) (.int b) = some (.sh (.int (a / b))) := by
  simp only [gFdiv]; rw [if_pos ⟨h, small9 (by omega)⟩]
theorem gNeg_int {a : Int} : gNeg (.int a) = some (.sh (.int (-a))) := rfl
theorem gLen_list {xs : List PyData} : gLen [.list xs] = some (.sh (.int xs.length)) := rfl
theorem gInt_int {a : Int} : gInt [.int a] = some (.sh (.int a)) := rfl
theorem gMin_int {x y : Int} : gMin [.int x, .int y] = some (.sh (.int (min x y))) := by
  show some (EV.sh (.int (if y < x then y else x))) = _
  congr 3
  split <;> omega
theorem gMax_int {x y : Int} : gMax [.int x, .int y] = some (.sh (.int (max x y))) := by
  show some (EV.sh (.int (if y > x then y else x))) = _
  congr 3
  split <;> omega
theorem gAdd_list {xs ys : List PyData} (h : xs.length + ys.length ≤ sizeLine) : gAdd (.list xs) (.list ys) = some (.ow (.list (xs ++ ys))) := by
  simp only [gAdd]; rw [if_pos h]
end
end Mr
namespace Mr
open PySem PySem.Spec PyProof.Rows L2
variable [Wd]
def m_L_take : FM := mfn 7 (sSeq (sIf (tBool (eBin gEq (eBg 0 0) (eC (.int 0))))
  (sSeq (sSetS 4 (eC (.int 0)))
  (sSeq (sIf (tBool (eBin gLt (eBg 0 2) (eCB gLen (aCons (eBg 0 3) aNil))))
  (sSetS 4 (eBin gIx (eBg 0 3) (eBg 0 2))) sSkip)
  (sSeq (sBgAdd 0 2 (eC (.int 1)))
  (sSeq (sIf (tBool (eBin gGe (eVar 4) (eC (.int 1000000000000000000))))
  (sBg 0 0 (eVar 4)) sSkip)
  (sSeq (sSetS 5 (eBin gAdd (eBin gAdd (eBin gMul (eBg 0 1) (eC (.int 48271))) (eBin gMod (eCB gInt (aCons (eVar 4) aNil)) (eC (.int 2147483647)))) (eBin gMul (eC (.int 7919)) (eBg 0 2))))
  (sBg 0 1 (eBin gMod (eCB gInt (aCons (eVar 5) aNil)) (eC (.int 2147483647))))))))) sSkip)
  (sSeq (sIf (tBool (eBin gGt (eBg 0 0) (eC (.int 0))))
  (sSeq (sSetS 6 (eBin gMod (eCB gInt (aCons (eBg 0 0) aNil)) (eVar 1)))
  (sSeq (sBg 0 0 (eBin gFdiv (eBg 0 0) (eVar 1)))
  (sRet (eVar 6)))) sSkip)
  (sSeq (sSetS 2 (eBin gMod (eCB gInt (aCons (eBin gMul (eBin gAdd (eBg 0 1) (eC (.int 1))) (eC (.int 39373))) aNil)) (eC (.int 1000000007))))
  (sSeq (sSetS 3 (eBin gMod (eCB gInt (aCons (eBin gMul (eBin gMod (eCB gInt (aCons (eBin gMul (eVar 2) (eVar 2)) aNil)) (eC (.int 998244353))) (eC (.int 30011))) aNil)) (eC (.int 998244353))))
  (sRet (eBin gMod (eCB gInt (aCons (eBin gFdiv (eVar 3) (eC (.int 7))) aNil)) (eVar 1)))))))
def m_L_one : FM := mfn 2 (sRet (eBin gIx (eVar 1) (eCall 2 m_L_take (aCons (eVar 0) (aCons (eCB gLen (aCons (eVar 1) aNil)) aNil)))))
def m_L_kinds : FM := mfn 7 (sSeq (sUnp (fTup 2 (fCons (fName 4) (fCons (fName 5) fNil))) (eTup (aCons (eCall 2 m_L_take (aCons (eVar 0) (aCons (eC (.int 4)) aNil))) (aCons (eCall 2 m_L_take (aCons (eVar 0) (aCons (eC (.int 12)) aNil))) aNil))))
  (sSeq (sSetS 2 (eLst (aCons (eC (.str "a")) (aCons (eC (.str "aa")) (aCons (eC (.str "b")) (aCons (eC (.str "ab")) (aCons (eC (.str "ba")) (aCons (eC (.str "z")) (aCons (eC (.str "zz")) (aCons (eC (.str "hook")) (aCons (eC (.str "end")) (aCons (eC (.str "zzzzzzzz")) (aCons (eC (.str "true")) (aCons (eC (.str "mm")) aNil))))))))))))))
  (sSeq (sIf (tBool (eBin gEq (eVar 4) (eC (.int 0))))
  (sRet (eCB gSorted (aCons (eSl (eBin gAdd (eVar 2) (eVar 2)) (oSome (eVar 5)) (oSome (eBin gAdd (eVar 5) (eVar 1)))) aNil))) sSkip)
  (sSeq (sIf (tBool (eBin gEq (eVar 4) (eC (.int 1))))
  (sRet (eSl (eLst (aCons (eC (.str "a")) (aCons (eC (.str "b")) (aCons (eC (.str "c")) (aCons (eC (.str "d")) (aCons (eC (.str "e")) (aCons (eC (.str "f")) (aCons (eC (.str "g")) (aCons (eC (.str "h")) aNil))))))))) oNone (oSome (eVar 1)))) sSkip)
  (sSeq (sSetS 3 (eSl (eC (.str "xq")) oNone (oSome (eCall 2 m_L_take (aCons (eVar 0) (aCons (eC (.int 3)) aNil))))))
  (sRet (eCB gSorted (aCons (eComp [6] (iRange (aCons (eVar 1) aNil)) (fName 6) tYesM (eBin gAdd (eVar 3) (eBin gIx (eC (.str "abcdefghijklmnopqrstuvwxyz")) (eBin gMod (eCB gInt (aCons (eBin gAdd (eBin gMul (eC (.int 2)) (eVar 5)) (eBin gMul (eC (.int 3)) (eVar 6))) aNil)) (eC (.int 26)))))) aNil))))))))
def m_L_begin : FM := mfn 1 (sRet (eIf (tVal (eBin gIx (eVar 0) (eC (.int 1)))) (eBin gIx (eBin gIx (eVar 0) (eC (.int 0))) (eC (.int 1))) (eBin gIx (eBin gIx (eVar 0) (eC (.int 0))) (eC (.int 0)))))
def m_L_end : FM := mfn 1 (sRet (eIf (tVal (eBin gIx (eVar 0) (eC (.int 1)))) (eBin gIx (eBin gIx (eVar 0) (eC (.int 0))) (eC (.int 0))) (eBin gIx (eBin gIx (eVar 0) (eC (.int 0))) (eC (.int 1)))))

def Yl (o : Out EV) (P : EV → Prop) : Prop := ∃ e B', o = .ok e B' ∧ BagOk B' ∧ P e
/-! ### comparisons of ints -/
theorem ok_int (i : Int) : okD (.int i) = true := rfl
/-- the cell that a draw reads -/
def cellOf (B : Bag) : Int := if B.x2 < (B.cells.length : Int) then B.cells.getD B.x2.toNat 0 else 0
/-- the bag behind the first half of a draw -/
def stepB (B : Bag) : Bag :=
  if B.x0 = 0 then
    { x0 := if 1000000000000000000 ≤ cellOf B then cellOf B else B.x0, x1 := (B.x1 * 48271 + cellOf B % 2147483647 + 7919 * (B.x2 + 1)) % 2147483647, x2 := B.x2 + 1, cells := B.cells }
  else B
theorem cell_nn {B : Bag} (ok : BagOk B) : 0 ≤ cellOf B := by
  unfold cellOf
  split
  · rename_i h
    have h2 := ok.a2
    have : B.x2.toNat < B.cells.length := by omega
    rw [List.getD_eq_getElem?_getD, List.getElem?_eq_getElem this]
    exact ok.cs _ (List.getElem_mem this)
  · exact Int.le_refl 0
theorem stepB_ok {B : Bag} (ok : BagOk B) : BagOk (stepB B) := by
  unfold stepB
  split
  · have hc := cell_nn ok
    refine ⟨?_, ?_, ?_, ok.cs⟩
    · show 0 ≤ (if 1000000000000000000 ≤ cellOf B then cellOf B else B.x0)
      split
      · exact hc
      · exact ok.a0
    · constructor
      · exact Int.emod_nonneg _ (by decide)
      · exact Int.emod_lt_of_pos _ (by decide)
    · show 0 ≤ B.x2 + 1
      have := ok.a2
      omega
  · exact ok
def drawB (B : Bag) (n : Int) : Int × Bag :=
  let C := stepB B
  if 0 < C.x0 then (C.x0 % n, { C with x0 := C.x0 / n }) else
    (((((((C.x1 + 1) * 39373) % 1000000007) * (((C.x1 + 1) * 39373) % 1000000007)) % 998244353 * 30011) % 998244353) / 7 % n, C)
theorem cell_at {B : Bag} (ok : BagOk B) (h : B.x2 < (B.cells.length : Int)) : atI (B.cells.map PyData.int) B.x2 = some (.int (cellOf B)) := by
  have h2 := ok.a2
  have hl : B.x2.toNat < B.cells.length := by omega
  have e : B.x2 = ((B.x2.toNat : Nat) : Int) := by omega
  unfold cellOf
  rw [if_pos h]
  conv => lhs; rw [e]
  refine atI_nat (j := B.x2.toNat) ?_
  rw [List.getElem?_map, List.getElem?_eq_getElem hl, List.getD_eq_getElem?_getD, List.getElem?_eq_getElem hl]
  rfl
theorem cell_no {B : Bag} (h : ¬ B.x2 < (B.cells.length : Int)) : cellOf B = 0 := if_neg h
theorem lt_int' (a b : Int) : PySem.W.dataLt (.int a) (.int b) = decide (a < b) := PySem.W.dataLt_int a b
theorem take_second {B : Bag} (ok : BagOk B) {n : Int} (h0 : 0 < n) (h9 : n.natAbs < 2 ^ 9000) (r4 r5 : Option EV) :
    (sSeq (sIf (tBool (eBin gGt (eBg 0 0) (eC (.int 0))))
  (sSeq (sSetS 6 (eBin gMod (eCB gInt (aCons (eBg 0 0) aNil)) (eVar 1)))
  (sSeq (sBg 0 0 (eBin gFdiv (eBg 0 0) (eVar 1)))
  (sRet (eVar 6)))) sSkip)
  (sSeq (sSetS 2 (eBin gMod (eCB gInt (aCons (eBin gMul (eBin gAdd (eBg 0 1) (eC (.int 1))) (eC (.int 39373))) aNil)) (eC (.int 1000000007))))
  (sSeq (sSetS 3 (eBin gMod (eCB gInt (aCons (eBin gMul (eBin gMod (eCB gInt (aCons (eBin gMul (eVar 2) (eVar 2)) aNil)) (eC (.int 998244353))) (eC (.int 30011))) aNil)) (eC (.int 998244353))))
  (sRet (eBin gMod (eCB gInt (aCons (eBin gFdiv (eVar 3) (eC (.int 7))) aNil)) (eVar 1)))))) [some .bg, some (.sh (.int n)), none, none, r4, r5, none] B
    = .ok (.rt (.sh (.int (if 0 < B.x0 then B.x0 % n else (((((B.x1 + 1) * 39373) % 1000000007) * (((B.x1 + 1) * 39373) % 1000000007)) % 998244353 * 30011) % 998244353 / 7 % n)))) (if 0 < B.x0 then { B with x0 := B.x0 / n } else B) := by
  by_cases hx : 0 < B.x0
  · have hq : 0 ≤ B.x0 / n := Int.ediv_nonneg (by omega) (by omega)
    simp [mfn, sSeq, sIf, sSet, sSetS, sFrzA, sRet, sExpr, sSkip, sUnp, sPar2, sBg, sBgAdd, sApp, sFrz, sFor, forL, eVar, eC, eBin, eUn, eIf, eAnd, eOr, eNot, eTup, eLst, eCall, eCB, eBg, eChain, eSl, oNone, oSome, eIxV, tBool, tVal, tNotM, tAndM, tOrM, tScal, aNil, aCons, Out.bind, liftO, boolOf, truD, EV.data, EV.share, dataAll, isBg, bagGet, bagSet, intOf, isOw, fName, fTup, fCons, fNil, frzE, frz1, iVal, iRange, itemsD, one, two, gAdd, Mr.gSub, gMul, gMod, gFdiv, gPow, gNeg, gEq, gNe, gLt, gLe, gGt, gGe, gIx, gLen, gInt, gAbs, gIsi, isT, ok_int, okC_int, eqv_int, lt_int', hx, h0, h9, hq]
  · have m1 : ((B.x1 + 1) * 39373) % 1000000007 < 1000000007 := Int.emod_lt_of_pos _ (by decide)
    have m2 : 0 ≤ ((B.x1 + 1) * 39373) % 1000000007 := Int.emod_nonneg _ (by decide)
    have m3 : (((B.x1 + 1) * 39373) % 1000000007 * (((B.x1 + 1) * 39373) % 1000000007)) % 998244353 < 998244353 := Int.emod_lt_of_pos _ (by decide)
    have a1 : -18446744073709551616 < (B.x1 + 1) * 39373 % 1000000007 ∧ (B.x1 + 1) * 39373 % 1000000007 < 18446744073709551616 := ⟨by omega, by omega⟩
    have s7 : (7 : Nat) < 2 ^ 9000 := Nat.lt_of_lt_of_le (by decide : (7 : Nat) < 2 ^ 3) (Nat.pow_le_pow_right (by decide) (by decide))
    simp [mfn, sSeq, sIf, sSet, sSetS, sFrzA, sRet, sExpr, sSkip, sUnp, sPar2, sBg, sBgAdd, sApp, sFrz, sFor, forL, eVar, eC, eBin, eUn, eIf, eAnd, eOr, eNot, eTup, eLst, eCall, eCB, eBg, eChain, eSl, oNone, oSome, eIxV, tBool, tVal, tNotM, tAndM, tOrM, tScal, aNil, aCons, Out.bind, liftO, boolOf, truD, EV.data, EV.share, dataAll, isBg, bagGet, bagSet, intOf, isOw, fName, fTup, fCons, fNil, frzE, frz1, iVal, iRange, itemsD, one, two, gAdd, Mr.gSub, gMul, gMod, gFdiv, gPow, gNeg, gEq, gNe, gLt, gLe, gGt, gGe, gIx, gLen, gInt, gAbs, gIsi, isT, ok_int, okC_int, eqv_int, lt_int', hx, h0, h9, a1, s7]
theorem take_eq {B : Bag} (ok : BagOk B) {n : Int} (h0 : 0 < n) (h9 : n.natAbs < 2 ^ 9000) : m_L_take [.bg, .sh (.int n)] B = .ok (.sh (.int (drawB B n).1)) (drawB B n).2 := by
  have ok2 := stepB_ok ok
  have key : ∀ (r4 r5 : Option EV) (fst : SM), fst [some .bg, some (.sh (.int n)), none, none, none, none, none] B = .ok (.nx [some .bg, some (.sh (.int n)), none, none, r4, r5, none]) (stepB B) →
    mfn 7 (sSeq fst (sSeq (sIf (tBool (eBin gGt (eBg 0 0) (eC (.int 0))))
  (sSeq (sSetS 6 (eBin gMod (eCB gInt (aCons (eBg 0 0) aNil)) (eVar 1)))
  (sSeq (sBg 0 0 (eBin gFdiv (eBg 0 0) (eVar 1)))
  (sRet (eVar 6)))) sSkip)
  (sSeq (sSetS 2 (eBin gMod (eCB gInt (aCons (eBin gMul (eBin gAdd (eBg 0 1) (eC (.int 1))) (eC (.int 39373))) aNil)) (eC (.int 1000000007))))
  (sSeq (sSetS 3 (eBin gMod (eCB gInt (aCons (eBin gMul (eBin gMod (eCB gInt (aCons (eBin gMul (eVar 2) (eVar 2)) aNil)) (eC (.int 998244353))) (eC (.int 30011))) aNil)) (eC (.int 998244353))))
  (sRet (eBin gMod (eCB gInt (aCons (eBin gFdiv (eVar 3) (eC (.int 7))) aNil)) (eVar 1))))))) [.bg, .sh (.int n)] B = .ok (.sh (.int (drawB B n).1)) (drawB B n).2 := by
    intro r4 r5 fst h
    unfold mfn
    have e : ([EV.bg, EV.sh (.int n)].map some ++ List.replicate (7 - [EV.bg, EV.sh (.int n)].length) none) = [some .bg, some (.sh (.int n)), none, none, none, none, none] := rfl
    rw [e]
    have e2 : ∀ (m2 : SM), sSeq fst m2 [some .bg, some (.sh (.int n)), none, none, none, none, none] B = m2 [some .bg, some (.sh (.int n)), none, none, r4, r5, none] (stepB B) := by
      intro m2; show (match fst _ B with | .ok (.nx ρ1) B1 => m2 ρ1 B1 | o => o) = _; rw [h]
    rw [e2, take_second ok2 h0 h9]
    show Out.ok (EV.sh (.int (if 0 < (stepB B).x0 then (stepB B).x0 % n else _))) _ = Out.ok (EV.sh (.int (drawB B n).1)) (drawB B n).2
    unfold drawB
    by_cases hx : 0 < (stepB B).x0
    · simp only [if_pos hx]
    · simp only [if_neg hx]
  unfold m_L_take
  by_cases hx0 : B.x0 = 0
  · have hc := cell_nn ok
    have x2 := ok.a2
    have hm : ∀ z : Int, 0 ≤ z % 2147483647 ∧ z % 2147483647 < 2147483647 := fun z => ⟨Int.emod_nonneg _ (by decide), Int.emod_lt_of_pos _ (by decide)⟩
    have h21 : 0 ≤ B.x2 + 1 := by omega
    by_cases hl : B.x2 < (B.cells.length : Int)
    · have hat := cell_at ok hl
      by_cases hbig : 1000000000000000000 ≤ cellOf B
      · refine key (some (.sh (.int (cellOf B)))) (some (.sh (.int (B.x1 * 48271 + cellOf B % 2147483647 + 7919 * (B.x2 + 1))))) _ ?_
        simp [mfn, sSeq, sIf, sSet, sSetS, sFrzA, sRet, sExpr, sSkip, sUnp, sPar2, sBg, sBgAdd, sApp, sFrz, sFor, forL, eVar, eC, eBin, eUn, eIf, eAnd, eOr, eNot, eTup, eLst, eCall, eCB, eBg, eChain, eSl, oNone, oSome, eIxV, tBool, tVal, tNotM, tAndM, tOrM, tScal, aNil, aCons, Out.bind, liftO, boolOf, truD, EV.data, EV.share, dataAll, isBg, bagGet, bagSet, intOf, isOw, fName, fTup, fCons, fNil, frzE, frz1, iVal, iRange, itemsD, one, two, gAdd, Mr.gSub, gMul, gMod, gFdiv, gPow, gNeg, gEq, gNe, gLt, gLe, gGt, gGe, gIx, gLen, gInt, gAbs, gIsi, isT, ok_int, okC_int, eqv_int, lt_int', hx0, hl, hat, hc, h21, hbig, hm, stepB]
      · refine key (some (.sh (.int (cellOf B)))) (some (.sh (.int (B.x1 * 48271 + cellOf B % 2147483647 + 7919 * (B.x2 + 1))))) _ ?_
        have hbig' : cellOf B < 1000000000000000000 := by omega
        simp [mfn, sSeq, sIf, sSet, sSetS, sFrzA, sRet, sExpr, sSkip, sUnp, sPar2, sBg, sBgAdd, sApp, sFrz, sFor, forL, eVar, eC, eBin, eUn, eIf, eAnd, eOr, eNot, eTup, eLst, eCall, eCB, eBg, eChain, eSl, oNone, oSome, eIxV, tBool, tVal, tNotM, tAndM, tOrM, tScal, aNil, aCons, Out.bind, liftO, boolOf, truD, EV.data, EV.share, dataAll, isBg, bagGet, bagSet, intOf, isOw, fName, fTup, fCons, fNil, frzE, frz1, iVal, iRange, itemsD, one, two, gAdd, Mr.gSub, gMul, gMod, gFdiv, gPow, gNeg, gEq, gNe, gLt, gLe, gGt, gGe, gIx, gLen, gInt, gAbs, gIsi, isT, ok_int, okC_int, eqv_int, lt_int', hx0, hl, hat, hc, h21, hbig, hbig', hm, stepB]
    · have h0c := cell_no hl
      refine key (some (.sh (.int 0))) (some (.sh (.int (B.x1 * 48271 + 7919 * (B.x2 + 1))))) _ ?_
      simp [mfn, sSeq, sIf, sSet, sSetS, sFrzA, sRet, sExpr, sSkip, sUnp, sPar2, sBg, sBgAdd, sApp, sFrz, sFor, forL, eVar, eC, eBin, eUn, eIf, eAnd, eOr, eNot, eTup, eLst, eCall, eCB, eBg, eChain, eSl, oNone, oSome, eIxV, tBool, tVal, tNotM, tAndM, tOrM, tScal, aNil, aCons, Out.bind, liftO, boolOf, truD, EV.data, EV.share, dataAll, isBg, bagGet, bagSet, intOf, isOw, fName, fTup, fCons, fNil, frzE, frz1, iVal, iRange, itemsD, one, two, gAdd, Mr.gSub, gMul, gMod, gFdiv, gPow, gNeg, gEq, gNe, gLt, gLe, gGt, gGe, gIx, gLen, gInt, gAbs, gIsi, isT, ok_int, okC_int, eqv_int, lt_int', hx0, hl, h21, hm, stepB, h0c]
  · refine key none none _ ?_
    simp [mfn, sSeq, sIf, sSet, sSetS, sFrzA, sRet, sExpr, sSkip, sUnp, sPar2, sBg, sBgAdd, sApp, sFrz, sFor, forL, eVar, eC, eBin, eUn, eIf, eAnd, eOr, eNot, eTup, eLst, eCall, eCB, eBg, eChain, eSl, oNone, oSome, eIxV, tBool, tVal, tNotM, tAndM, tOrM, tScal, aNil, aCons, Out.bind, liftO, boolOf, truD, EV.data, EV.share, dataAll, isBg, bagGet, bagSet, intOf, isOw, fName, fTup, fCons, fNil, frzE, frz1, iVal, iRange, itemsD, one, two, gAdd, Mr.gSub, gMul, gMod, gFdiv, gPow, gNeg, gEq, gNe, gLt, gLe, gGt, gGe, gIx, gLen, gInt, gAbs, gIsi, isT, ok_int, okC_int, eqv_int, lt_int', hx0, stepB]
theorem draw_ok {B : Bag} (ok : BagOk B) {n : Int} (h0 : 0 < n) : BagOk (drawB B n).2 ∧ 0 ≤ (drawB B n).1 ∧ (drawB B n).1 < n := by
  have ok2 := stepB_ok ok
  unfold drawB
  by_cases hx : 0 < (stepB B).x0
  · simp only [if_pos hx]
    exact ⟨⟨Int.ediv_nonneg (by omega) (by omega), ok2.a1, ok2.a2, ok2.cs⟩, Int.emod_nonneg _ (by omega), Int.emod_lt_of_pos _ h0⟩
  · simp only [if_neg hx]
    exact ⟨ok2, Int.emod_nonneg _ (by omega), Int.emod_lt_of_pos _ h0⟩
theorem take_yl {B : Bag} (ok : BagOk B) {n : Int} (h0 : 0 < n) (h9 : n.natAbs < 2 ^ 9000) : ∃ r B', m_L_take [.bg, .sh (.int n)] B = .ok (.sh (.int r)) B' ∧ BagOk B' ∧ 0 ≤ r ∧ r < n :=
  ⟨_, _, take_eq ok h0 h9, (draw_ok ok h0).1, (draw_ok ok h0).2.1, (draw_ok ok h0).2.2⟩

theorem eqv_nil (xs : List PyData) : PyData.eqv (.list xs) (.list []) = xs.isEmpty := by
  cases xs with
  | nil => rfl
  | cons x xs => rw [PyData.eqv, PyData.eqvAll]; rfl
theorem Gd.int {i : Int} (h : i.natAbs < 2 ^ 120) : Gd 0 0 (.int i) := by
  have hl : i.natAbs.log2 < 120 := by
    by_cases h0 : i.natAbs = 0
    · rw [h0]; decide
    · exact (Nat.log2_lt h0).mpr h
  refine ⟨?_, ?_, by simp [PyData.bulk], by simp [PyData.depth]⟩
  · simp only [PyData.leavesShort, decide_eq_true_eq]
    show (Str.ofString (toString i)).length ≤ 130
    have := int_text_length_le (k := 120) (by decide) hl
    rw [PySem.ofString_length]
    omega
  · simp only [PyData.showable, decide_eq_true_eq]; omega

theorem nine (n : Nat) (h : n < 2 ^ 64) : ((n : Int)).natAbs < 2 ^ 9000 := by
  rw [Int.natAbs_natCast]; exact small9 h
theorem seq_nx {m1 m2 : SM} {ρ ρ1 : Env} {B B1 : Bag} (h : m1 ρ B = .ok (.nx ρ1) B1) : sSeq m1 m2 ρ B = m2 ρ1 B1 := by
  unfold sSeq; rw [h]
theorem seq_rt {m1 m2 : SM} {ρ : Env} {B B1 : Bag} {e : EV} (h : m1 ρ B = .ok (.rt e) B1) : sSeq m1 m2 ρ B = .ok (.rt e) B1 := by
  unfold sSeq; rw [h]
theorem if_t {c : TM} {m1 m2 : SM} {ρ : Env} {B B1 : Bag} (h : c ρ B = .ok true B1) : sIf c m1 m2 ρ B = m1 ρ B1 := by
  unfold sIf; rw [h]; rfl
theorem if_f {c : TM} {m1 m2 : SM} {ρ : Env} {B B1 : Bag} (h : c ρ B = .ok false B1) : sIf c m1 m2 ρ B = m2 ρ B1 := by
  unfold sIf; rw [h]; rfl
theorem ret_ok {m : EM} {ρ : Env} {B B1 : Bag} {e : EV} (h : m ρ B = .ok e B1) : sRet m ρ B = .ok (.rt e) B1 := by
  unfold sRet; rw [h]; rfl
theorem setS_ok {m : EM} {i : Nat} {ρ : Env} {B B1 : Bag} {e : EV} (h : m ρ B = .ok e B1) (hi : i < ρ.length) : sSetS i m ρ B = .ok (.nx (ρ.set i (some e.share))) B1 := by
  unfold sSetS; rw [h, bind_ok, if_pos hi]
theorem bin_ok {g : PyData → PyData → Option EV} {m1 m2 : EM} {ρ : Env} {B B1 B2 : Bag} {e1 e2 e : EV} {d1 d2 : PyData} (h1 : m1 ρ B = .ok e1 B1) (h2 : m2 ρ B1 = .ok e2 B2) (hd1 : e1.data = some d1) (hd2 : e2.data = some d2) (hg : g d1 d2 = some e) : eBin g m1 m2 ρ B = .ok e B2 := by
  unfold eBin; rw [h1, bind_ok, h2, bind_ok, hd1, hd2]; simp only [Option.bind_some, hg, liftO_some]
theorem oSome_ok {m : EM} {ρ : Env} {B B1 : Bag} {i : Int} (h : m ρ B = .ok (.sh (.int i)) B1) : oSome m ρ B = .ok (some i) B1 := by
  unfold oSome; rw [h, bind_ok]
theorem sl_ok {m : EM} {ol oh : OM} {ρ : Env} {B B1 B2 B3 : Bag} {e r : EV} {l h : Option Int} {d : PyData} (h1 : m ρ B = .ok e B1) (h2 : ol ρ B1 = .ok l B2) (h3 : oh ρ B2 = .ok h B3) (hd : e.data = some d) (hg : gSl l h d = some r) : eSl m ol oh ρ B = .ok r B3 := by
  unfold eSl; rw [h1, bind_ok, h2, bind_ok, h3, bind_ok, hd, Option.bind_some, hg, liftO_some]
theorem cb1_ok {g : List PyData → Option EV} {m : EM} {ρ : Env} {B B1 : Bag} {e r : EV} {d : PyData} (h1 : m ρ B = .ok e B1) (hd : e.data = some d) (hg : g [d] = some r) : eCB g (aCons m aNil) ρ B = .ok r B1 := by
  have es : e.share = .sh d := by cases e <;> cases hd <;> rfl
  unfold eCB aCons aNil; rw [h1, bind_ok, bind_ok, bind_ok, es]
  show liftO ((some [d]).bind g) B1 = _
  rw [Option.bind_some, hg, liftO_some]
theorem comp_ok {vs : List Nat} {mi : IM} {f : PyData → Env → Option Env} {tt : TM} {me : EM} {ρ ρ' : Env} {B B1 B2 : Bag} {ds acc : List PyData} (h1 : mi ρ B = .ok ds B1) (hw : wipeE ρ vs = ρ') (h2 : compL f tt me ds ρ' [] B1 = .ok acc B2) : eComp vs mi f tt me ρ B = .ok (.ow (.list acc)) B2 := by
  unfold eComp; rw [h1, bind_ok, hw, h2, bind_ok]
theorem boolT {m : EM} {ρ : Env} {B B1 : Bag} {k : Bool} (h : m ρ B = .ok (.sh (.bool k)) B1) : tBool m ρ B = .ok k B1 := by
  unfold tBool; rw [h]; rfl
theorem fn_rt {n : Nat} {ms : SM} {es : List EV} {B B1 : Bag} {e : EV} {ρ : Env} (hρ : es.map some ++ List.replicate (n - es.length) none = ρ) (h : ms ρ B = .ok (.rt e) B1) : mfn n ms es B = .ok e B1 := by
  unfold mfn; rw [hρ, h]
/-- a drawn number -/
theorem takeN {B : Bag} (ok : BagOk B) (n : Nat) (h0 : 0 < n) (h : n < 2 ^ 64) : ∃ (r : Nat) (B' : Bag), m_L_take [.bg, .sh (.int (n : Int))] B = .ok (.sh (.int (r : Int))) B' ∧ BagOk B' ∧ r < n := by
  obtain ⟨r, B', e, ok', h1, h2⟩ := take_yl ok (n := (n : Int)) (by omega) (nine n h)
  refine ⟨r.toNat, B', ?_, ok', by omega⟩
  rw [e, Int.toNat_of_nonneg h1]
/-- an expression that draws -/
theorem eTake {B : Bag} (ok : BagOk B) {ρ : Env} {j : Nat} (hb : ρ[j]? = some (some .bg)) (n : Nat) (h0 : 0 < n) (h : n < 2 ^ 64) : ∃ (r : Nat) (B' : Bag), eCall 2 m_L_take (aCons (eVar j) (aCons (eC (.int (n : Int))) aNil)) ρ B = .ok (.sh (.int (r : Int))) B' ∧ BagOk B' ∧ r < n := by
  obtain ⟨r, B', e, ok', h1⟩ := takeN ok n h0 h
  refine ⟨r, B', ?_, ok', h1⟩
  simp only [eCall, aCons, eVar, hb, eC, aNil, bind_ok, EV.share, List.length_cons, List.length_nil, if_true, e]
theorem one_yl {B : Bag} (ok : BagOk B) {ds : List PyData} (h0 : ds ≠ []) (h : ds.length < 2 ^ 32) : ∃ d B', m_L_one [.bg, .sh (.list ds)] B = .ok (.sh d) B' ∧ BagOk B' ∧ d ∈ ds := by
  obtain ⟨r, B', e, ok', h1⟩ := takeN ok ds.length (List.length_pos_iff.mpr h0) (Nat.lt_trans h (by decide))
  obtain ⟨x, hx, hm, _⟩ := atI_at (xs := ds) (i := (r : Int)) (by omega) (by omega)
  refine ⟨x, B', ?_, ok', hm⟩
  have l3 : gLen [.list ds] = some (.sh (.int (ds.length : Int))) := rfl
  have i3 : gIx (.list ds) (.int (r : Int)) = some (.sh x) := by simp only [gIx, hx, Option.map_some]
  unfold m_L_one mfn
  have e0 : ([EV.bg, EV.sh (.list ds)].map some ++ List.replicate (2 - [EV.bg, EV.sh (.list ds)].length) none) = [some .bg, some (.sh (.list ds))] := rfl
  rw [e0]
  simp only [sRet, eBin, eVar, eCall, aCons, aNil, eCB, List.getElem?_cons_zero, List.getElem?_cons_succ, bind_ok, EV.share, dataAll, Option.map_some, Option.bind_some, l3, liftO_some, List.length_cons, List.length_nil, if_true, e, EV.data, i3]
theorem eOne {B : Bag} (ok : BagOk B) {ρ : Env} {j : Nat} {m : EM} (hb : ρ[j]? = some (some .bg)) {ds : List PyData} {e : EV} (hm : m ρ B = .ok e B) (he : e.share = .sh (.list ds)) (h0 : ds ≠ []) (h : ds.length < 2 ^ 32) :
    ∃ d B', eCall 2 m_L_one (aCons (eVar j) (aCons m aNil)) ρ B = .ok (.sh d) B' ∧ BagOk B' ∧ d ∈ ds := by
  obtain ⟨d, B', e1, ok', h1⟩ := one_yl ok h0 h
  refine ⟨d, B', ?_, ok', h1⟩
  have sb : EV.bg.share = .bg := rfl
  simp only [eCall, aCons, eVar, hb, hm, aNil, bind_ok, he, sb, List.length_cons, List.length_nil, if_true, e1]
/-- a drawn kind -/
def Kd (d : PyData) : Prop := ∃ x : Str, d = .str x ∧ asc x = true ∧ x.cps.size ≤ 8
theorem strs_sortOk {ds : List PyData} (h : ∀ d ∈ ds, ∃ x, d = .str x) (hl : ds.length ≤ sizeLine) : sortOk ds = true := by
  simp only [sortOk, Bool.and_eq_true, Bool.or_eq_true, decide_eq_true_eq, allAlikeB, List.all_eq_true]
  refine ⟨⟨⟨fun d hd d' hd' => ?_, .inr fun d hd => ?_⟩, fun d hd => ?_⟩, hl⟩
  · obtain ⟨x, rfl⟩ := h d hd
    obtain ⟨y, rfl⟩ := h d' hd'
    rfl
  · obtain ⟨x, rfl⟩ := h d hd
    rfl
  · obtain ⟨x, rfl⟩ := h d hd
    simp [PyData.depth]
theorem sorted_strs {ds : List PyData} (h : ∀ d ∈ ds, Kd d) (hl : ds.length ≤ sizeLine) : ∃ es, gSorted [.list ds] = some (.ow (.list es)) ∧ es.length = ds.length ∧ ∀ d ∈ es, Kd d := by
  refine ⟨ds.mergeSort leD, ?_, List.length_mergeSort .., fun d hd => h d (List.mem_mergeSort.mp hd)⟩
  simp only [gSorted]
  rw [strs_sortOk (fun d hd => by obtain ⟨x, e, _⟩ := h d hd; exact ⟨x, e⟩) hl]
  rfl
theorem kd_of {x : Str} (h : (asc x && decide (x.cps.size ≤ 8)) = true) : Kd (.str x) := by
  simp only [Bool.and_eq_true, decide_eq_true_eq] at h
  exact ⟨x, rfl, h.1, h.2⟩
def menuD : List PyData := [.str "a", .str "aa", .str "b", .str "ab", .str "ba", .str "z", .str "zz", .str "hook", .str "end", .str "zzzzzzzz", .str "true", .str "mm"]
def eightD : List PyData := [.str "a", .str "b", .str "c", .str "d", .str "e", .str "f", .str "g", .str "h"]
theorem menu_kd : ∀ d ∈ menuD, Kd d := by
  intro d hd
  simp only [menuD, List.mem_cons, List.not_mem_nil, or_false] at hd
  rcases hd with rfl | rfl | rfl | rfl | rfl | rfl | rfl | rfl | rfl | rfl | rfl | rfl <;> exact kd_of (by decide +kernel)
theorem eight_kd : ∀ d ∈ eightD, Kd d := by
  intro d hd
  simp only [eightD, List.mem_cons, List.not_mem_nil, or_false] at hd
  rcases hd with rfl | rfl | rfl | rfl | rfl | rfl | rfl | rfl <;> exact kd_of (by decide +kernel)
theorem sz {n : Nat} (h : n ≤ 100000) : n ≤ sizeLine := by rw [sizeLine_eq]; omega
/-- letter by index -/
theorem letter_ix (k : Nat) (h : k < 26) : ∃ x : Str, gIx (.str "abcdefghijklmnopqrstuvwxyz") (.int (k : Int)) = some (.sh (.str x)) ∧ asc x = true ∧ x.cps.size = 1 := by
  have key : ∀ k : Fin 26, ∃ c : Nat, atI (Str.ofString "abcdefghijklmnopqrstuvwxyz").cps.toList ((k.1 : Nat) : Int) = some c ∧ c < 128 := by
    intro k
    have : ∀ k : Fin 26, (match atI (Str.ofString "abcdefghijklmnopqrstuvwxyz").cps.toList ((k.1 : Nat) : Int) with | some c => decide (c < 128) | none => false) = true := by decide +kernel
    have := this k
    cases hc : atI (Str.ofString "abcdefghijklmnopqrstuvwxyz").cps.toList ((k.1 : Nat) : Int) with
    | none => rw [hc] at this; cases this
    | some c => rw [hc] at this; exact ⟨c, rfl, of_decide_eq_true this⟩
  obtain ⟨c, hc, hlt⟩ := key ⟨k, h⟩
  refine ⟨⟨#[c]⟩, ?_, by simp [asc, hlt], rfl⟩
  have hz : (Str.ofString "abcdefghijklmnopqrstuvwxyz").length ≤ sizeLine := sz (by decide +kernel)
  simp only [gIx, if_pos hz, hc, Option.map_some]
theorem app_kd {x y : Str} {a b : Nat} (hx : asc x = true) (hy : asc y = true) (lx : x.cps.size ≤ a) (ly : y.cps.size ≤ b) (h : a + b ≤ 8) : gAdd (.str x) (.str y) = some (.sh (.str (x ++ y))) ∧ Kd (.str (x ++ y)) := by
  have e : (x ++ y).cps = x.cps ++ y.cps := rfl
  have l1 : x.length = x.cps.size := rfl
  have l2 : y.length = y.cps.size := rfl
  constructor
  · simp only [gAdd]
    rw [if_pos (sz (by omega))]
  · refine ⟨_, rfl, ?_, ?_⟩
    · simp only [asc, e, Array.toList_append, List.all_append, Bool.and_eq_true] at hx hy ⊢
      exact ⟨hx, hy⟩
    · rw [e, Array.size_append]; omega
theorem stem_ix (r : Nat) (h : r < 3) : ∃ x : Str, gSl none (some (r : Int)) (.str "xq") = some (.sh (.str x)) ∧ asc x = true ∧ x.cps.size ≤ 2 := by
  have hz : (Str.ofString "xq").length ≤ sizeLine := sz (by decide +kernel)
  refine ⟨cutS "xq" none (some (r : Int)), ?_, ?_⟩
  · simp only [gSl, if_pos hz]
  · match r, h with
    | 0, _ => exact ⟨by decide +kernel, by decide +kernel⟩
    | 1, _ => exact ⟨by decide +kernel, by decide +kernel⟩
    | 2, _ => exact ⟨by decide +kernel, by decide +kernel⟩
theorem eq_nat (a b : Nat) : gEq (.int (a : Int)) (.int (b : Int)) = some (.sh (.bool (decide (a = b)))) := by
  simp only [gEq, okD_int, eqv_int, Bool.and_self, if_true]
  congr 3
  by_cases h : a = b
  · subst h; simp
  · have : ((a : Int) == (b : Int)) = false := by rw [beq_eq_false_iff_ne]; omega
    simp [this, h]
theorem rgN {n : Nat} (h : n ≤ 1000) : (-(2 ^ 62) : Int) ≤ (n : Int) ∧ (n : Int) < 2 ^ 62 := by
  refine ⟨Int.le_trans (b := 0) (by decide) (Int.natCast_nonneg n), Int.lt_of_le_of_lt (b := 1000) ?_ (by decide)⟩
  omega
theorem iRange_ok {m : EM} {ρ : Env} {B B1 : Bag} {n : Nat} (h : m ρ B = .ok (.sh (.int (n : Int))) B1) (hn : n ≤ 1000) : iRange (aCons m aNil) ρ B = .ok (rangeD 0 (n : Int)) B1 := by
  have rg := rgN hn
  unfold iRange aCons aNil
  rw [h, bind_ok, bind_ok, bind_ok]
  show (if (-(2 ^ 62) : Int) ≤ (n : Int) ∧ (n : Int) < 2 ^ 62 then Out.ok (rangeD 0 (n : Int)) B1 else .bad) = _
  exact if_pos rg
theorem elem_ok (n way turn : Nat) {stem : Str} (as : asc stem = true) (ls : stem.cps.size ≤ 2) (d : PyData) (hd : d ∈ rangeD 0 (n : Int)) (B : Bag) (ok : BagOk B) :
    ∃ ρ1 e B2 x, fName 6 d [some .bg, some (.sh (.int (n : Int))), some (.sh (.list menuD)), some (.sh (.str stem)), some (.sh (.int (way : Int))), some (.sh (.int (turn : Int))), none] = some ρ1 ∧
      eBin gAdd (eVar 3) (eBin gIx (eC (.str "abcdefghijklmnopqrstuvwxyz")) (eBin gMod (eCB gInt (aCons (eBin gAdd (eBin gMul (eC (.int 2)) (eVar 5)) (eBin gMul (eC (.int 3)) (eVar 6))) aNil)) (eC (.int 26)))) ρ1 B = .ok e B2 ∧ e.data = some x ∧ Kd x ∧ BagOk B2 := by
  simp only [rangeD, List.mem_map, List.mem_range] at hd
  obtain ⟨k, hk, rfl⟩ := hd
  have ek : (0 : Int) + (k : Int) = (k : Int) := by omega
  rw [ek]
  have lt : (2 * turn + 3 * k) % 26 < 26 := Nat.mod_lt _ (by decide)
  obtain ⟨x, hx, ax, lx⟩ := letter_ix ((2 * turn + 3 * k) % 26) lt
  obtain ⟨h1, h2⟩ := app_kd as ax ls (Nat.le_of_eq lx) (by decide)
  refine ⟨[some .bg, some (.sh (.int (n : Int))), some (.sh (.list menuD)), some (.sh (.str stem)), some (.sh (.int (way : Int))), some (.sh (.int (turn : Int))), some (.sh (.int (k : Int)))], .sh (.str (stem ++ x)), B, _, rfl, ?_, rfl, h2, ok⟩
  have m1 : gMul (.int 2) (.int (turn : Int)) = some (.sh (.int (2 * (turn : Int)))) := by simp [gMul]
  have m2 : gMul (.int 3) (.int (k : Int)) = some (.sh (.int (3 * (k : Int)))) := by simp [gMul]
  have m3 : gMod (.int (2 * (turn : Int) + 3 * (k : Int))) (.int 26) = some (.sh (.int (((2 * turn + 3 * k) % 26 : Nat) : Int))) := by
    simp [gMod]
  refine bin_ok (B1 := B) (B2 := B) (e1 := .sh (.str stem)) (e2 := .sh (.str x)) rfl ?_ rfl rfl h1
  refine bin_ok (B1 := B) (B2 := B) (e1 := .sh (.str "abcdefghijklmnopqrstuvwxyz")) (e2 := .sh (.int (((2 * turn + 3 * k) % 26 : Nat) : Int))) rfl ?_ rfl rfl hx
  refine bin_ok (B1 := B) (B2 := B) (e1 := .sh (.int (2 * (turn : Int) + 3 * (k : Int)))) (e2 := .sh (.int 26)) ?_ rfl rfl rfl m3
  simp only [eCB, aCons, eBin, eC, eVar, aNil, bind_ok, List.getElem?_cons_zero, List.getElem?_cons_succ, EV.data, Option.bind_some, m1, m2, liftO_some, gAdd, EV.share, dataAll, Option.map_some, gInt]
theorem kinds_yl {B : Bag} (ok : BagOk B) (n : Nat) (hn : n ≤ 8) : ∃ ks e B', m_L_kinds [.bg, .sh (.int (n : Int))] B = .ok e B' ∧ e.share = .sh (.list ks) ∧ BagOk B' ∧ ks.length = n ∧ ∀ d ∈ ks, Kd d := by
  have e0 : ([EV.bg, EV.sh (.int (n : Int))].map some ++ List.replicate (7 - [EV.bg, EV.sh (.int (n : Int))].length) none) = [some .bg, some (.sh (.int (n : Int))), none, none, none, none, none] := rfl
  obtain ⟨way, B1, t1, ok1, hw⟩ := eTake ok (ρ := [some .bg, some (.sh (.int (n : Int))), none, none, none, none, none]) (j := 0) rfl 4 (by decide) (by decide)
  obtain ⟨turn, B2, t2, ok2, ht⟩ := eTake ok1 (ρ := [some .bg, some (.sh (.int (n : Int))), none, none, none, none, none]) (j := 0) rfl 12 (by decide) (by decide)
  unfold m_L_kinds mfn
  rw [e0]
  have s1 : sUnp (fTup 2 (fCons (fName 4) (fCons (fName 5) fNil))) (eTup (aCons (eCall 2 m_L_take (aCons (eVar 0) (aCons (eC (.int 4)) aNil))) (aCons (eCall 2 m_L_take (aCons (eVar 0) (aCons (eC (.int 12)) aNil))) aNil))) [some .bg, some (.sh (.int (n : Int))), none, none, none, none, none] B
      = .ok (.nx [some .bg, some (.sh (.int (n : Int))), none, none, some (.sh (.int (way : Int))), some (.sh (.int (turn : Int))), none]) B2 := by
    have two : (2 : Nat) ≤ sizeLine := sz (by decide)
    simp only [sUnp, eTup]
    rw [show aCons (eCall 2 m_L_take (aCons (eVar 0) (aCons (eC (.int 4)) aNil))) (aCons (eCall 2 m_L_take (aCons (eVar 0) (aCons (eC (.int 12)) aNil))) aNil) [some .bg, some (.sh (.int (n : Int))), none, none, none, none, none] B = .ok [.sh (.int (way : Int)), .sh (.int (turn : Int))] B2 by
      rw [aCons, show eCall 2 m_L_take (aCons (eVar 0) (aCons (eC (.int 4)) aNil)) [some .bg, some (.sh (.int (n : Int))), none, none, none, none, none] B = _ from t1, bind_ok, aCons, show eCall 2 m_L_take (aCons (eVar 0) (aCons (eC (.int 12)) aNil)) [some .bg, some (.sh (.int (n : Int))), none, none, none, none, none] B1 = _ from t2, bind_ok]
      rfl]
    simp only [bind_ok, dataAll, Option.map_some, List.length_cons, List.length_nil, if_pos two]
    rfl
  have s2 : ∀ ρ5 B5, sSetS 2 (eLst (aCons (eC (.str "a")) (aCons (eC (.str "aa")) (aCons (eC (.str "b")) (aCons (eC (.str "ab")) (aCons (eC (.str "ba")) (aCons (eC (.str "z")) (aCons (eC (.str "zz")) (aCons (eC (.str "hook")) (aCons (eC (.str "end")) (aCons (eC (.str "zzzzzzzz")) (aCons (eC (.str "true")) (aCons (eC (.str "mm")) aNil))))))))))))) [some .bg, some (.sh (.int (n : Int))), none, none, ρ5, some (.sh (.int (turn : Int))), none] B5
      = .ok (.nx [some .bg, some (.sh (.int (n : Int))), some (.sh (.list menuD)), none, ρ5, some (.sh (.int (turn : Int))), none]) B5 := by
    intro ρ5 B5
    have two : (12 : Nat) ≤ sizeLine := sz (by decide)
    simp only [sSetS, eLst, aCons, eC, aNil, bind_ok, EV.share, dataAll, Option.map_some, List.length_cons, List.length_nil, if_pos two]
    rfl
  rw [seq_nx s1, seq_nx (s2 _ _)]
  generalize hρ : [some EV.bg, some (EV.sh (.int (n : Int))), some (EV.sh (.list menuD)), none, some (EV.sh (.int (way : Int))), some (EV.sh (.int (turn : Int))), none] = ρ
  have v0 : ρ[0]? = some (some EV.bg) := by rw [← hρ]; rfl
  have v1 : eVar 1 ρ B2 = .ok (.sh (.int (n : Int))) B2 := by rw [← hρ]; rfl
  have v2 : eVar 2 ρ B2 = .ok (.sh (.list menuD)) B2 := by rw [← hρ]; rfl
  have v4 : eVar 4 ρ B2 = .ok (.sh (.int (way : Int))) B2 := by rw [← hρ]; rfl
  have v5 : eVar 5 ρ B2 = .ok (.sh (.int (turn : Int))) B2 := by rw [← hρ]; rfl
  have c0 : ∀ k : Nat, tBool (eBin gEq (eVar 4) (eC (.int (k : Int)))) ρ B2 = .ok (decide (way = k)) B2 := fun k => boolT (bin_ok v4 (show eC (.int (k : Int)) ρ B2 = .ok (.sh (.int (k : Int))) B2 from rfl) rfl rfl (eq_nat way k))
  by_cases w0 : way = 0
  · have c : tBool (eBin gEq (eVar 4) (eC (.int 0))) ρ B2 = .ok (decide (way = 0)) B2 := c0 0
    rw [decide_eq_true w0] at c
    have l24 : (menuD ++ menuD).length = 24 := rfl
    have a1 : gAdd (.list menuD) (.list menuD) = some (.ow (.list (menuD ++ menuD))) := by
      simp only [gAdd]
      rw [if_pos (sz (by decide))]
    have sl : eSl (eBin gAdd (eVar 2) (eVar 2)) (oSome (eVar 5)) (oSome (eBin gAdd (eVar 5) (eVar 1))) ρ B2 = .ok (.ow (.list (cutL (menuD ++ menuD) (some (turn : Int)) (some ((turn + n : Nat) : Int))))) B2 := by
      have x1 := bin_ok (g := gAdd) v2 v2 rfl rfl a1
      have x2 : eBin gAdd (eVar 5) (eVar 1) ρ B2 = .ok (.sh (.int ((turn : Int) + (n : Int)))) B2 := bin_ok v5 v1 rfl rfl rfl
      unfold eSl oSome
      rw [x1, bind_ok, v5, bind_ok]
      show (Out.ok (some (turn : Int)) B2).bind _ = _
      rw [bind_ok, x2, bind_ok]
      show (Out.ok (some ((turn : Int) + (n : Int))) B2).bind _ = _
      rw [bind_ok]
      rfl
    have mem : ∀ d ∈ cutL (menuD ++ menuD) (some (turn : Int)) (some ((turn + n : Nat) : Int)), Kd d := by
      intro d hd
      rw [cutL_nat] at hd
      have := List.mem_of_mem_drop (List.mem_of_mem_take hd)
      rcases List.mem_append.mp this with h | h <;> exact menu_kd d h
    have len : (cutL (menuD ++ menuD) (some (turn : Int)) (some ((turn + n : Nat) : Int))).length = n := by
      rw [cutL_nat, List.length_take, List.length_drop, l24]
      omega
    obtain ⟨es, he, hl, hk⟩ := sorted_strs mem (sz (by rw [len]; omega))
    have rt : eCB gSorted (aCons (eSl (eBin gAdd (eVar 2) (eVar 2)) (oSome (eVar 5)) (oSome (eBin gAdd (eVar 5) (eVar 1)))) aNil) ρ B2 = .ok (.ow (.list es)) B2 := by
      simp only [eCB, aCons, sl, aNil, bind_ok, EV.share, dataAll, Option.map_some, Option.bind_some, he, liftO_some]
    refine ⟨es, .ow (.list es), B2, ?_, rfl, ok2, by rw [hl, len], hk⟩
    rw [seq_rt (by rw [if_t c]; exact ret_ok rt)]
  · have cF : tBool (eBin gEq (eVar 4) (eC (.int 0))) ρ B2 = .ok (decide (way = 0)) B2 := c0 0
    rw [decide_eq_false w0] at cF
    rw [seq_nx (by rw [if_f cF]; rfl)]
    by_cases w1 : way = 1
    · have c : tBool (eBin gEq (eVar 4) (eC (.int 1))) ρ B2 = .ok (decide (way = 1)) B2 := c0 1
      rw [decide_eq_true w1] at c
      have sl : eSl (eLst (aCons (eC (.str "a")) (aCons (eC (.str "b")) (aCons (eC (.str "c")) (aCons (eC (.str "d")) (aCons (eC (.str "e")) (aCons (eC (.str "f")) (aCons (eC (.str "g")) (aCons (eC (.str "h")) aNil))))))))) oNone (oSome (eVar 1)) ρ B2 = .ok (.ow (.list (cutL eightD none (some (n : Int))))) B2 := by
        have x1 : eLst (aCons (eC (.str "a")) (aCons (eC (.str "b")) (aCons (eC (.str "c")) (aCons (eC (.str "d")) (aCons (eC (.str "e")) (aCons (eC (.str "f")) (aCons (eC (.str "g")) (aCons (eC (.str "h")) aNil)))))))) ρ B2 = .ok (.ow (.list eightD)) B2 := by
          have two : (8 : Nat) ≤ sizeLine := sz (by decide)
          simp only [eLst, aCons, eC, aNil, bind_ok, EV.share, dataAll, Option.map_some, List.length_cons, List.length_nil, if_pos two]
          rfl
        unfold eSl oSome oNone
        rw [x1, bind_ok, bind_ok, v1, bind_ok]
        rfl
      refine ⟨cutL eightD none (some (n : Int)), .ow (.list (cutL eightD none (some (n : Int)))), B2, ?_, rfl, ok2, ?_, fun d hd => ?_⟩
      · rw [seq_rt (by rw [if_t c]; exact ret_ok sl)]
      · rw [cutL_to, List.length_take]
        show min (min n 8) 8 = n
        omega
      · rw [cutL_to] at hd
        exact eight_kd d (List.mem_of_mem_take hd)
    · have cF1 : tBool (eBin gEq (eVar 4) (eC (.int 1))) ρ B2 = .ok (decide (way = 1)) B2 := c0 1
      rw [decide_eq_false w1] at cF1
      rw [seq_nx (by rw [if_f cF1]; rfl)]
      obtain ⟨r, B3, t3, ok3, hr⟩ := eTake ok2 (ρ := ρ) (j := 0) v0 3 (by decide) (by decide)
      obtain ⟨stem, hs, as, ls⟩ := stem_ix r hr
      have s3 : sSetS 3 (eSl (eC (.str "xq")) oNone (oSome (eCall 2 m_L_take (aCons (eVar 0) (aCons (eC (.int 3)) aNil))))) ρ B2 = .ok (.nx (ρ.set 3 (some (.sh (.str stem))))) B3 := by
        exact setS_ok (e := .sh (.str stem)) (sl_ok (d := .str "xq") (e := .sh (.str "xq")) rfl rfl (oSome_ok t3) rfl hs) (by rw [← hρ]; simp)
      rw [seq_nx s3, ← hρ]
      obtain ⟨xs, B4, ec, ok4, lc, pc⟩ := compL_all (f := fName 6) (me := eBin gAdd (eVar 3) (eBin gIx (eC (.str "abcdefghijklmnopqrstuvwxyz")) (eBin gMod (eCB gInt (aCons (eBin gAdd (eBin gMul (eC (.int 2)) (eVar 5)) (eBin gMul (eC (.int 3)) (eVar 6))) aNil)) (eC (.int 26))))) Kd (rangeD 0 (n : Int))
        [some .bg, some (.sh (.int (n : Int))), some (.sh (.list menuD)), some (.sh (.str stem)), some (.sh (.int (way : Int))), some (.sh (.int (turn : Int))), none] [] B3 ok3 (by simp [rangeD]; exact sz (by omega)) (fun d hd B ok => elem_ok n way turn as ls d hd B ok)
      simp only [List.nil_append] at ec
      have lx : xs.length = n := by rw [lc]; simp [rangeD]
      obtain ⟨es, he, hl, hk⟩ := sorted_strs pc (sz (by omega))
      refine ⟨es, .ow (.list es), B4, ?_, rfl, ok4, by omega, hk⟩
      have cm : eComp [6] (iRange (aCons (eVar 1) aNil)) (fName 6) tYesM (eBin gAdd (eVar 3) (eBin gIx (eC (.str "abcdefghijklmnopqrstuvwxyz")) (eBin gMod (eCB gInt (aCons (eBin gAdd (eBin gMul (eC (.int 2)) (eVar 5)) (eBin gMul (eC (.int 3)) (eVar 6))) aNil)) (eC (.int 26)))))
          ([some EV.bg, some (EV.sh (.int (n : Int))), some (EV.sh (.list menuD)), none, some (EV.sh (.int (way : Int))), some (EV.sh (.int (turn : Int))), none].set 3 (some (.sh (.str stem)))) B3 = .ok (.ow (.list xs)) B4 := by
        exact comp_ok (iRange_ok (n := n) (show eVar 1 _ B3 = .ok (.sh (.int (n : Int))) B3 from rfl) (by omega)) rfl ec
      rw [ret_ok (cb1_ok cm rfl he)]

def m_L_alike : FM := mfn 2 (sRet (eAnd (eBin gEq (eVar 0) (eVar 1)) (eBin gEq (eCB gRepr (aCons (eVar 0) aNil)) (eCB gRepr (aCons (eVar 1) aNil)))))

/-! ### data without dicts, shown and compared -/
structure Gp (n m : Nat) (d : PyData) : Prop where
  gd : Gd n m d
  pl : d.plain = true
  nd : d.hasDict = false
theorem Gp.mono {n m n' m' : Nat} {d : PyData} (g : Gp n m d) (h : n ≤ n') (h' : m ≤ m') : Gp n' m' d := ⟨g.gd.mono h h', g.pl, g.nd⟩
theorem Gp.int {i : Int} (h : i.natAbs < 2 ^ 120) : Gp 0 0 (.int i) := ⟨Gd.int h, rfl, by simp [PyData.hasDict]⟩
theorem Gp.bool {b : Bool} : Gp 0 0 (.bool b) := ⟨Gd.bool, rfl, by simp [PyData.hasDict]⟩
theorem Gp.none : Gp 0 0 .none := ⟨Gd.none, rfl, by simp [PyData.hasDict]⟩
theorem Gp.kd {d : PyData} (h : Kd d) : Gp 8 0 d := by
  obtain ⟨x, rfl, ha, hl⟩ := h
  exact ⟨Gd.str ha hl, rfl, by simp [PyData.hasDict]⟩
theorem plainAll_of : ∀ {ds : List PyData}, (∀ d ∈ ds, d.plain = true) → PyData.plainAll ds = true
  | [], _ => rfl
  | d :: ds, h => by
    rw [PyData.plainAll, h d (List.mem_cons_self ..), plainAll_of fun x hx => h x (List.mem_cons_of_mem _ hx)]; rfl
theorem noDictAll_of : ∀ {ds : List PyData}, (∀ d ∈ ds, d.hasDict = false) → PyData.hasDictAll ds = false
  | [], _ => by simp [PyData.hasDictAll]
  | d :: ds, h => by
    rw [PyData.hasDictAll, h d (List.mem_cons_self ..), noDictAll_of fun x hx => h x (List.mem_cons_of_mem _ hx)]; rfl
theorem Gp.list {n m k : Nat} {ds : List PyData} (h : ∀ d ∈ ds, Gp n m d) (hl : ds.length ≤ k) : Gp (k * (n + 1)) (m + 1) (.list ds) :=
  ⟨(Gd.list fun d hd => (h d hd).gd).mono (Nat.mul_le_mul_right _ hl) (Nat.le_refl _), by rw [PyData.plain]; exact plainAll_of fun d hd => (h d hd).pl, by rw [PyData.hasDict]; exact noDictAll_of fun d hd => (h d hd).nd⟩
theorem Gp.tuple {n m k : Nat} {ds : List PyData} (h : ∀ d ∈ ds, Gp n m d) (hl : ds.length ≤ k) : Gp (k * (n + 1)) (m + 1) (.tuple ds) :=
  ⟨(Gd.tuple fun d hd => (h d hd).gd).mono (Nat.mul_le_mul_right _ hl) (Nat.le_refl _), by rw [PyData.plain]; exact plainAll_of fun d hd => (h d hd).pl, by rw [PyData.hasDict]; exact noDictAll_of fun d hd => (h d hd).nd⟩
theorem Gp.tup2 {n m : Nat} {a b : PyData} (ha : Gp n m a) (hb : Gp n m b) : Gp (2 * (n + 1)) (m + 1) (.tuple [a, b]) := Gp.tuple (by simp [ha, hb]) (by simp)
theorem Gp.tup3 {n m : Nat} {a b c : PyData} (ha : Gp n m a) (hb : Gp n m b) (hc : Gp n m c) : Gp (3 * (n + 1)) (m + 1) (.tuple [a, b, c]) := Gp.tuple (by simp [ha, hb, hc]) (by simp)
theorem Gp.ok {n m : Nat} {d : PyData} (g : Gp n m d) (hm : m ≤ 60) : okD d = true := by
  simp only [okD, g.pl, Bool.true_and, decide_eq_true_eq]
  exact Nat.le_trans g.gd.dp hm
theorem gEq_gp {n m n' m' : Nat} {d1 d2 : PyData} (h1 : Gp n m d1) (h2 : Gp n' m' d2) (a : m ≤ 60) (b : m' ≤ 60) : gEq d1 d2 = some (.sh (.bool (PyData.eqv d1 d2))) := by
  simp only [gEq, h1.ok a, h2.ok b, Bool.and_self, if_true]
theorem gNe_gp {n m n' m' : Nat} {d1 d2 : PyData} (h1 : Gp n m d1) (h2 : Gp n' m' d2) (a : m ≤ 60) (b : m' ≤ 60) : gNe d1 d2 = some (.sh (.bool (!PyData.eqv d1 d2))) := by
  simp only [gNe, h1.ok a, h2.ok b, Bool.and_self, if_true]
/-! ### by what holds behind them -/
section
variable {B : Bag} {Q : EV → Bag → Prop}
/-- plain data is alike itself -/
theorem alike_same {n m : Nat} {D : PyData} (gp : Gp n m D) (hn : n ≤ 10000) (hm : m ≤ 60) (q : Q (.sh (.bool true)) B) : Sat (m_L_alike [.sh D, .sh D] B) Q := by
  obtain ⟨g, hp, hd⟩ := gp
  have okd : okD D = true := by
    simp only [okD, hp, Bool.true_and, decide_eq_true_eq]
    exact Nat.le_trans g.dp hm
  have rf := SeqAt.eqv_refl_plain _ hp
  have rp := repr_ok g hd hn hm
  have q1 : eBin gEq (eVar 0) (eVar 1) [some (.sh D), some (.sh D)] B = .ok (.sh (.bool true)) B := by
    refine bin_ok (e1 := .sh D) (e2 := .sh D) rfl rfl rfl rfl ?_
    simp only [gEq, okd, Bool.and_self, if_true, rf]
  have q2 : eBin gEq (eCB gRepr (aCons (eVar 0) aNil)) (eCB gRepr (aCons (eVar 1) aNil)) [some (.sh D), some (.sh D)] B = .ok (.sh (.bool true)) B := by
    refine bin_ok (cb1_ok (e := .sh D) rfl rfl rp) (cb1_ok (e := .sh D) rfl rfl rp) rfl rfl ?_
    simp only [gEq, okD_str, Bool.and_self, if_true, eqv_str, beq_self_eq_true]
  refine sat_eq (fn_rt (ρ := [some (.sh D), some (.sh D)]) rfl (ret_ok (e := .sh (.bool true)) (B1 := B) ?_)) q
  unfold eAnd
  rw [q1, bind_ok]
  show eBin gEq _ _ _ B = _
  exact q2
theorem begin_str {x y : Str} {t u : Bool} (q : Q (.sh (.str (if u then y else x))) B) : Sat (m_L_begin [.sh (.tuple [.tuple [.str x, .str y, .bool t], .bool u])] B) Q := by
  refine sat_eq (a := .sh (.str (if u then y else x))) (B := B) ?_ q
  cases u <;> rfl
theorem end_str {x y : Str} {t u : Bool} (q : Q (.sh (.str (if u then x else y))) B) : Sat (m_L_end [.sh (.tuple [.tuple [.str x, .str y, .bool t], .bool u])] B) Q := by
  refine sat_eq (a := .sh (.str (if u then x else y))) (B := B) ?_ q
  cases u <;> rfl
theorem range_at {n : Int} {k : Nat} {d : PyData} (h : (rangeD 0 n)[k]? = some d) : d = .int (k : Int) ∧ (k : Int) < n := by
  unfold rangeD at h
  rw [List.getElem?_map] at h
  cases q : (List.range (n - 0).toNat)[k]? with
  | none => rw [q] at h; cases h
  | some j =>
    rw [q] at h
    obtain ⟨hk, e⟩ := List.getElem?_eq_some_iff.mp q
    rw [List.getElem_range] at e
    subst e
    cases h
    rw [List.length_range] at hk
    exact ⟨by simp, by omega⟩
theorem range_len (n : Int) : (rangeD 0 n).length = n.toNat := by
  unfold rangeD
  simp
theorem gIx_first {x : PyData} {xs : List PyData} : gIx (.list (x :: xs)) (.int 0) = some (.sh x) := by
  simp only [gIx]
  rw [show atI (x :: xs) 0 = some x from atI_nat (j := 0) rfl]
  rfl
theorem gIx_nat {xs : List PyData} {k : Nat} {x : PyData} (h : xs[k]? = some x) : gIx (.list xs) (.int (k : Int)) = some (.sh x) := by
  simp only [gIx]
  rw [atI_nat h]
  rfl
theorem gIx_last {xs : List PyData} {x : PyData} : gIx (.list (xs ++ [x])) (.int (-1)) = some (.sh x) := by
  simp only [gIx]
  rw [atI_last]
  rfl
theorem take_sat (ok : BagOk B) {n : Int} (h0 : 0 < n) (h9 : n.natAbs < 2 ^ 9000) (q : ∀ r B', BagOk B' → 0 ≤ r → r < n → Q (.sh (.int r)) B') : Sat (m_L_take [.bg, .sh (.int n)] B) Q := by
  obtain ⟨r, B', e, ok', h1, h2⟩ := take_yl ok h0 h9
  exact sat_eq e (q r B' ok' h1 h2)
theorem take_satN (ok : BagOk B) {n : Nat} (h0 : 0 < n) (h : n < 2 ^ 64) (q : ∀ (r : Nat) B', BagOk B' → r < n → Q (.sh (.int (r : Int))) B') : Sat (m_L_take [.bg, .sh (.int (n : Int))] B) Q := by
  obtain ⟨r, B', e, ok', h1⟩ := takeN ok n h0 h
  exact sat_eq e (q r B' ok' h1)
/-- .. of a written number -/
theorem take_satL (ok : BagOk B) {i : Int} (n : Nat) (hi : i = (n : Int)) (h : 0 < n ∧ n < 2 ^ 64) (q : ∀ (r : Nat) B', BagOk B' → r < n → Q (.sh (.int (r : Int))) B') : Sat (m_L_take [.bg, .sh (.int i)] B) Q := by
  subst hi
  exact take_satN ok h.1 h.2 q
theorem one_sat (ok : BagOk B) {ds : List PyData} (h0 : ds ≠ []) (h : ds.length < 2 ^ 32) (q : ∀ d B', BagOk B' → d ∈ ds → Q (.sh d) B') : Sat (m_L_one [.bg, .sh (.list ds)] B) Q := by
  obtain ⟨d, B', e, ok', h1⟩ := one_yl ok h0 h
  exact sat_eq e (q d B' ok' h1)
theorem kinds_sat (ok : BagOk B) {n : Nat} (hn : n ≤ 8) (q : ∀ ks e B', e.share = .sh (.list ks) → BagOk B' → ks.length = n → (∀ d ∈ ks, Kd d) → Q e B') : Sat (m_L_kinds [.bg, .sh (.int (n : Int))] B) Q := by
  obtain ⟨ks, e, B', h, h1, h2, h3, h4⟩ := kinds_yl ok n hn
  exact sat_eq h (q ks e B' h1 h2 h3 h4)
end
end Mr
namespace Mr
open PySem PySem.Spec PyProof.Rows L2
variable [Wd]
/-! what holds behind the mirrors of dicts -/
section
variable {ρ : Env} {B : Bag} {Q : EV → Bag → Prop} {QS : Flow → Bag → Prop} {QI : List PyData → Bag → Prop} {i : Nat} {m mk mv mf : EM} {ds : List (PyData × PyData)}
theorem sat_dn0 (q : Q (.ow (.dict [])) B) : Sat (eDN0 ρ B) Q := sat_ok q
theorem sat_dput (hi : ρ[i]? = some (some (.ow (.dict ds)))) (h : Sat (mv ρ B) fun ev B1 => Sat (mk ρ B1) fun ek B2 => ∃ d dk, ev.data = some d ∧ ek = .sh dk ∧ ((keyT dk).isSome = true ∧ ds.length < sizeLine) ∧ QS (.nx (ρ.set i (some (.ow (.dict (putDn ds dk d)))))) B2) : Sat (sDPut i mk mv ρ B) QS := by
  unfold sDPut
  rw [sat_bind]
  refine sat_mono h fun ev B1 h1 => ?_
  rw [sat_bind]
  refine sat_mono h1 fun ek B2 ⟨d, dk, h2, h3, h4, h5⟩ => ?_
  subst h3
  simp only [h2, hi, if_pos h4]
  exact sat_ok h5
theorem sat_dget (hi : dsOf ρ i = some ds) (h : Sat (mk ρ B) fun ek B1 => Sat (mf ρ B1) fun ef B2 => ∃ dk df, ek = .sh dk ∧ ef = .sh df ∧ ((keyT dk).isSome = true ∧ keysT ds = true) ∧ Q (.sh ((getDn ds dk).getD df)) B2) : Sat (eDGetV i mk mf ρ B) Q := by
  unfold eDGetV
  rw [sat_bind]
  refine sat_mono h fun ek B1 h1 => ?_
  rw [sat_bind]
  refine sat_mono h1 fun ef B2 ⟨dk, df, h2, h3, h4, h5⟩ => ?_
  subst h2 h3
  simp only [hi, if_pos h4]
  exact sat_ok h5
theorem sat_itemsD (h : Sat (m ρ B) fun e B1 => ∃ ds, e.data = some (.dict ds) ∧ keysT ds = true ∧ QI (ds.map fun e => .tuple [e.1, e.2]) B1) : Sat (iItemsD m ρ B) QI := by
  unfold iItemsD
  rw [sat_bind]
  refine sat_mono h fun e B1 ⟨ds, h1, h2, h3⟩ => ?_
  simp only [h1, dictOf, if_pos h2]
  exact sat_ok h3
end
end Mr
namespace Mr
open PySem PySem.Spec PyProof.Rows L2
variable [Wd]
/-! ### errors that leave a def -/
/-- the field that an error's class keeps -/
def fldOf (c : Str) : Option Str :=
  if c = "Fixed" then some "index" else if c = "NoPlace" then some "index" else if c = "NoText" then some "index" else if c = "Wrong" then some "place" else if c = "NoKind" then some "kind" else if c = "Both" then some "kind"
  else if c = "NoCart" then some "cart" else if c = "Missing" then some "cart" else if c = "NoRange" then some "cart" else if c = "NoNumber" then some "number" else if c = "Refused" then some "deed" else none
/-- an error of the class named c, with the datum d -/
def ErrAt (mg : Str → Option Value) (c : Str) (d : PyData) (cls : Value) (dx : Option Addr) (H0 H : Hp) : Prop :=
  ∃ C, mg c = some (.ref C) ∧ cls = .ref C ∧ match fldOf c with
    | some f => ∃ (p : Addr) (v : V), dx = some p ∧ H p = some (.xd [(f, v)]) ∧ Dn H0 v d
    | none => dx = none
inductive XV where
  | ok (e : EV) (B : Bag)
  | ex (c : Str) (d : PyData) (B : Bag)
  | bad
inductive XO where
  | ok (fl : Mr.Flow) (B : Bag)
  | ex (c : Str) (d : PyData) (B : Bag)
  | bad
abbrev XFM := List EV → Bag → XV
abbrev XM := Mr.Env → Bag → XO
def postFX (mg : Str → Option Value) (b : Addr × Addr) (H0 H : Hp) (Q : VK) (E : XK) : XV → Prop
  | .ok e B' => ∀ v H0' H', Gr b H H0 H' H0' → HR b B' H0' H' → VR b H H0' H' v e → Q v H'
  | .ex c d B' => ∀ cls dx H0' H', Gr b H H0 H' H0' → HR b B' H0' H' → ErrAt mg c d cls dx H0' H' → E cls dx H'
  | .bad => False
def spX (mg : Str → Option Value) (n : Nat) (mx : XFM) : Sp := fun vs H Q E => ∃ b B H0 es, HR b B H0 H ∧ VRs b H0 vs es ∧ es.length = n ∧ postFX mg b H0 H Q E (mx es B)
structure FnGX (P : Program) (w : World) (K : PySem.W.Frag) (mg : Str → Option Value) (base : Heap) (k : Nat) (f : Addr) (fd : FuncData) (ps : List Str) (sp : Sp) : Prop where
  glen : ∀ xs h q e, sp xs h q e → xs.length = ps.length
  grun : ∀ (A : Around) (out : List PySem.Env) (s : Shared) (h : Hp) (gs : Args) (us : List Value) (xs : List V) (q : VK) (e : XK),
    A.guards = some [] → Room k A → Env0 P w K mg base A out s h → BindsTo s fd gs (ps.zip us) → Vals xs us → sp xs h q e → codeAny (model P w) A (.call (.ref f) gs) (CR (L2.CX P w) out P w h s q e) s
section
variable {P : Program} {w : World} {K : PySem.W.Frag} {mg : Str → Option Value} {base : Heap}
theorem FnGX.mono {j k : Nat} {f : Addr} {fd : FuncData} {ps : List Str} {sp : Sp} (F : FnGX P w K mg base j f fd ps sp) (hjk : j ≤ k) : FnGX P w K mg base k f fd ps sp :=
  ⟨F.glen, fun A out s h gs us xs q e g hr => F.grun A out s h gs us xs q e g (hr.mono hjk)⟩
/-- where nothing is raised -/
theorem FnGX.calm {k : Nat} {f : Addr} {fd : FuncData} {ps : List Str} {sp : Sp} (F : FnGX P w K mg base k f fd ps sp) : FnG P w K mg base k f fd ps (fun vs H Q _ => sp vs H Q E0) :=
  ⟨fun xs h q e z => F.glen xs h q E0 z, fun A out s h gs us xs q e g hr e0 hb r z => codeAny_mono (F.grun A out s h gs us xs q E0 g hr e0 hb r z) fun res s' hq => by
    match res, hq with
    | .error e, hq =>
      obtain ⟨_, _, _, _, _, _, _, _, _, _, _, _, z⟩ := hq
      exact z.elim
    | .ok (.ret u), hq => exact hq⟩
theorem Fun.okGX {x qual : Str} {st : Stmt} {f : Addr} {fd : FuncData} {N ps : List Str} {k : Nat} {sp : Sp} (F : Fun K x qual st f fd) (S : FnScope N ps (defScope st)) (len : ∀ vs H Q E, sp vs H Q E → vs.length = ps.length)
    (hbody : ∀ (cdv : Value) (A : Around) (out : List PySem.Env) (s : Shared) (H : Hp) (vs : List V) (Q : VK) (E : XK), (A.deeper (envOfC qual (defScope st) s.heap.objs.size f cdv)).guards = some [] → Room k (A.deeper (envOfC qual (defScope st) s.heap.objs.size f cdv)) → sp vs H Q E →
      ∃ t, PSs (cxOf (L2.CX P w) P w K mg base N qual (defScope st) f cdv A out s H E) (defBody st) t ∧ t { nx := fun _ H' => Q .non H', rt := Q } (L2.start N vs) H) : FnGX P w K mg base (k + 1) f fd ps sp := by
  obtain ⟨oc, od, kV, doc, pm, an, cdv, ct, osl, rfl, lk, hcd⟩ := F.ex
  refine ⟨len, fun A out s H gs us vs Q E hgu hr e0 hb rv hsp => ?_⟩
  have hlen := len _ _ _ _ hsp
  have hkin : K.In s.heap := e0.mod.kin.keeps fun a o z => (e0.bs a o z).1
  have hlim : s.heap.NoLimit := e0.mod.nolimit.keeps fun a o z => (e0.bs a o z).1
  have hkd : ∀ y ∈ ps.zip us, (defScope st).names.lookup y.1 = some .local ∨
      ((defScope st).names.lookup y.1 = some .cell ∧ ((cellsFrom (s.heap.objs.size + 1) (defScope st).names []).lookup y.1).isSome = true) := by
    intro y hy
    obtain ⟨nm, va⟩ := y
    have hpar := S.par nm (List.of_mem_zip hy).1
    cases hpar with
    | inl z => exact .inl z
    | inr z => exact .inr ⟨z, PySem.W.cellsFrom_some _ _ _ (.inl z)⟩
  refine codeAny_call_function hr.depth (hkin _ _ lk) rfl S.co S.gen rfl (PySem.W.codeRec_of hkin hcd) (hb _ _ _ _ ?_)
  refine wpAny_newFunctionEnv_cells S.kind hkd fun env henv s1 hx => ?_
  subst henv
  refine ⟨hlim.keeps hx.toInCall.keep, codeAny_func ?_⟩
  obtain ⟨t, ht, hq⟩ := hbody cdv A out s H vs Q E hgu (hr.deeper _) hsp
  have I := inv_start (CX := L2.CX P w) (E := E) S hr.hd e0 hlen rv hx
  have fin : ∀ {s' : Shared} {σ' : L2.St} {H' : Hp} {v : V} {u : Value}, Inv (cxOf (L2.CX P w) P w K mg base N qual (defScope st) f cdv A out s H E) [] σ' H' s' → RelV v u → Q v H' → CE out P w H s Q u s' :=
    fun {_ _ H' v _} J r z => ⟨v, H', J.os, J.bare, J.base, J.hok, r, z⟩
  refine wpAny_mono (ht.run [] s1 (L2.start N vs) H _ I hq) (fun fl s' hs => ?_) fun e s' hs => hs
  match fl, hs with
  | .ret u, ⟨v, σ', H', J, r, z⟩ => exact fin J r z
  | .next, ⟨σ', H', J, z⟩ => exact fin (v := V.non) (u := Value.none) J rfl z
  | .brk, ⟨_, _, _, z⟩ => exact False.elim z
  | .cont, ⟨_, _, _, z⟩ => exact False.elim z
end
section
variable {X : Cx} {k : Nat} {f : Addr} {fd : FuncData} {ps : List Str} {sp : Sp}
theorem runGX {pins : List (Addr × Obj)} {σ : L2.St} {H : Hp} {s : Shared} {Q : VK} {us : List Value} {vs : List V} {E : L2.St → XK}
    (F : FnGX X.prog X.w X.K X.mg X.base k f fd ps sp) (hgu : X.A.guards = some []) (hr : Room k X.A) (hb : Binds X.K fd ps []) (hx : PassesAt (L2.CX X.prog X.w) X σ (E σ))
    (I : Inv X pins σ H s) (r : Vals vs us) (h : sp vs H Q (E σ)) : wpAny (model X.prog X.w) X.A (call (.ref f) us) (EP X pins σ Q) X.xe s := by
  have hlen : us.length = ps.length := by rw [← r.length]; exact F.glen _ _ _ _ h
  have hb' := hb s us I.kIn (by rw [List.append_nil]; exact hlen)
  rw [List.append_nil] at hb'
  have z := F.grun X.A X.stack s H ⟨us, []⟩ us vs Q (E σ) hgu hr I.env0 hb' r h
  refine wpAny_call (codeAny_mono z fun res s' hq => ?_)
  match res, hq with
  | .error e, hq => exact hx pins H s e s' I hq
  | .ok (.ret u), hq => exact I.after hq
theorem pe_callGX {x : Str} {e : Expr} {es : List Expr} {t : TA} {p pos : Pos} {E : L2.St → XK}
    (F : FnGX X.prog X.w X.K X.mg X.base k f fd ps sp) (hgu : X.A.guards = some []) (hr : Room k X.A) (hg : Gl X x) (hm : X.mg x = some (.ref f))
    (hk : PySem.W.keepIn X.K (.ref f) = true) (hb : Binds X.K fd ps []) (hx : ∀ σ, PassesAt (L2.CX X.prog X.w) X σ (E σ)) (ha : PA X (e :: es) t)
    (hdb : (x == ("__debug__" : Str)) = false := by decide) (he : starEach (e :: es) X.env = (false, eval e X.env) :: starEach es X.env := by rfl) (hpl : (backTo pos (starEach es X.env)).any (·.1) = false := by rfl) :
    PE X (.Call (.Name x p) (e :: es) [] pos) (fun σ H Q => t σ H fun vs H1 => sp vs H1 Q (E σ)) :=
  ⟨fun pins s σ H Q I h => wpAny_Call_Name_kw (ld_glob I hg hm
    (PySem.W.callWith_K (h₀ := X.base) I.ok.mod.kin hk (thn (ha.run pos pins s σ H _ I h) fun us s1 hz => by
      obtain ⟨vs, H1, I1, rv, z⟩ := hz
      exact ⟨I1.kIn, runGX F hgu hr hb (hx σ) I1 rv z⟩) he hpl) hdb)⟩
end
/-- a def that may raise, by its mirror -/
structure FnX (P : Program) (w : World) (K : PySem.W.Frag) (mg : Str → Option Value) (base : Heap) (k : Nat) (x : Str) (n : Nat) (mx : XFM) : Prop where
  ex : ∃ f fd ps, FnGX P w K mg base k f fd ps (spX mg n mx) ∧ mg x = some (.ref f) ∧ PySem.W.keepIn K (.ref f) = true ∧ Binds K fd ps []
/-- its mirror where it doesn't -/
def calmX (mx : XFM) : FM := fun es B => match mx es B with
  | .ok e B' => .ok e B'
  | _ => .bad
theorem FnX.calm {P : Program} {w : World} {K : PySem.W.Frag} {mg : Str → Option Value} {base : Heap} {k n : Nat} {x : Str} {mx : XFM} (G : FnX P w K mg base k x n mx) : FnM P w K mg base k x n (calmX mx) := by
  obtain ⟨f, fd, ps, F, hm, hk, hb⟩ := G.ex
  refine ⟨f, fd, ps, F.calm.imp fun vs H Q E y => ?_, hm, hk, hb⟩
  obtain ⟨b, B, H0, es, hr, r, hl, q⟩ := y
  refine ⟨b, B, H0, es, hr, r, hl, ?_⟩
  unfold calmX at q
  cases h1 : mx es B with
  | ok e B' => rw [h1] at q; exact q
  | ex c d B' => rw [h1] at q; exact q.elim
  | bad => rw [h1] at q; exact q.elim
/-! ### the body of such a def -/
def postX (mg : Str → Option Value) (b : Addr × Addr) (He H0e Hs : Hp) (D : Ends) (E : XK) : XO → Prop
  | .ok fl B' => postS b He H0e Hs D (.ok fl B')
  | .ex c d B' => ∀ cls dx H0' H', HR b B' H0' H' → Gr b He H0e H' H0' → ErrAt mg c d cls dx H0' H' → E cls dx H'
  | .bad => False
theorem postX.mono {mg : Str → Option Value} {b : Addr × Addr} {He H0e Hs Hs' : Hp} {D : Ends} {E : XK} (l : Le Hs Hs') {o : XO} (q : postX mg b He H0e Hs D E o) : postX mg b He H0e Hs' D E o := by
  cases o with
  | ok fl B' => exact postS.mono l q
  | ex c d B' => exact q
  | bad => exact q
def rdX (mg : Str → Option Value) (E : XK) (m : XM) : TS := fun D σ H => ∃ b He H0e ρ B H0, SR b He H0e σ ρ B H0 H ∧ postX mg b He H0e H0 D E (m ρ B)
abbrev MX (X : Cx) (E : XK) (st : Stmt) (m : XM) : Prop := PS X st (rdX X.mg E m)
abbrev MXs (X : Cx) (E : XK) (st : List Stmt) (m : XM) : Prop := PSs X st (rdX X.mg E m)
def xl (m : SM) : XM := fun ρ B => match m ρ B with
  | .ok fl B' => .ok fl B'
  | .bad => .bad
def xSeq (m1 m2 : XM) : XM := fun ρ B => match m1 ρ B with
  | .ok (.nx ρ1) B1 => m2 ρ1 B1
  | o => o
def xIf (c : TM) (m1 m2 : XM) : XM := fun ρ B => match c ρ B with
  | .ok k B1 => if k then m1 ρ B1 else m2 ρ B1
  | .bad => .bad
def xRaise (c : Str) (m : EM) : XM := fun ρ B => match m ρ B with
  | .ok e B1 => (match e.data with
    | some d => .ex c d B1
    | none => .bad)
  | .bad => .bad
def xFn (nN : Nat) (ms : XM) : XFM := fun es B => match ms (es.map some ++ List.replicate (nN - es.length) none) B with
  | .ok (.rt e) B' => .ok e B'
  | .ok (.nx _) B' => .ok (.sh .none) B'
  | .ok _ _ => .bad
  | .ex c d B' => .ex c d B'
  | .bad => .bad
section
variable {X : Cx} {E : XK} {a c e : Expr} {st : Stmt} {rest : List Stmt} {pos : Pos}
theorem xl_rd {mg : Str → Option Value} {m : SM} {D : Ends} {σ : L2.St} {H : Hp} (h : rdX mg E (xl m) D σ H) : rdS m D σ H := by
  obtain ⟨b, He, H0e, ρ, B, H0, s, q⟩ := h
  refine ⟨b, He, H0e, ρ, B, H0, s, ?_⟩
  unfold xl at q
  cases h1 : m ρ B with
  | bad => rw [h1] at q; exact q
  | ok fl B1 => rw [h1] at q; exact q
theorem mx_l {m : SM} (h : MS X st m) : MX X E st (xl m) := PS.weak h fun _ _ _ => xl_rd
theorem mxs_l {m : SM} (h : MSs X rest m) : MXs X E rest (xl m) := PSs.weak h fun _ _ _ => xl_rd
theorem mxs_cons {m1 m2 : XM} (h1 : MX X E st m1) (h2 : MXs X E rest m2) : MXs X E (st :: rest) (xSeq m1 m2) := PSs.weak (pss_cons h1 h2) fun D σ H ⟨b, He, H0e, ρ, B, H0, s, q⟩ => by
  refine ⟨b, He, H0e, ρ, B, H0, s, ?_⟩
  unfold xSeq at q
  cases h1 : m1 ρ B with
  | bad => rw [h1] at q; exact q
  | ex c d B1 => rw [h1] at q; exact q
  | ok fl B1 =>
    rw [h1] at q
    cases fl with
    | nx ρ1 => exact fun σ1 H01 H1 l1 s1 => ⟨b, He, H0e, ρ1, B1, H01, s1, q.mono l1⟩
    | rt e => exact q
    | bk ρ1 => exact q
    | ct ρ1 => exact q
theorem mxs_one {m1 : XM} (h1 : MX X E st m1) : MXs X E [st] m1 := pss_one h1
theorem mx_if {tc : TM} {p q : List Stmt} {m1 m2 : XM} (hc : MT X c tc) (ha : MXs X E p m1) (hb : MXs X E q m2) : MX X E (.If c p q pos) (xIf tc m1 m2) := PS.weak (ps_if hc ha hb) fun D σ H ⟨b, He, H0e, ρ, B, H0, s, q⟩ => by
  unfold xIf at q
  cases h1 : tc ρ B with
  | bad => rw [h1] at q; exact q.elim
  | ok k B1 =>
    rw [h1] at q
    dsimp only at q
    refine rdT_at s h1 fun H01 H1 g1 s1 => ?_
    cases k with
    | true =>
      rw [if_pos rfl] at q ⊢
      exact ⟨b, He, H0e, ρ, B1, H01, s1, q.mono g1.l0⟩
    | false =>
      rw [if_neg Bool.false_ne_true] at q ⊢
      exact ⟨b, He, H0e, ρ, B1, H01, s1, q.mono g1.l0⟩
/-- raise C(e), where making it is known -/
theorem mx_raise {C : Addr} {cn fl : Str} {m : EM} {p : Pos} {t : L2.St → Hp → XK → Prop} (hc : X.calm = true) (tk : Takes X fun cls d _ H => E cls d H) (hf : fldOf cn = some fl) (hC : X.mg cn = some (.ref C))
    (hm : PMk X (.Call (.Name cn p) [a] [] pos) t) (ht : ∀ σ H Q, (rdA (aCons m aNil) σ H fun vs H1 => ∃ v, vs = [v] ∧ ∀ d, H1 d = none → Q (.ref C) (some d) (upd H1 d (.xd [(fl, v)]))) → t σ H Q) {pos2 : Pos} :
    MX X E (.Raise (some (.Call (.Name cn p) [a] [] pos)) none pos2) (xRaise cn m) := PS.weak (ps_raise hc tk hm) fun D σ H ⟨b, He, H0e, ρ, B, H0, s, q⟩ => by
  refine ht _ _ _ ?_
  unfold xRaise at q
  cases h1 : m ρ B with
  | bad => rw [h1] at q; exact q.elim
  | ok e1 B1 =>
    rw [h1] at q
    dsimp only at q
    have ha : aCons m aNil ρ B = .ok [e1.share] B1 := by unfold aCons aNil; rw [h1, bind_ok, bind_ok]
    refine rdA_at s ha fun vs H01 H1 g1 s1 r1 => ?_
    cases hd1 : e1.data with
    | none => simp only [hd1] at q; exact q.elim
    | some d1 =>
      simp only [hd1] at q
      have es : e1.share = .sh d1 := by cases e1 <;> cases hd1 <;> rfl
      rw [es] at r1
      match vs, r1 with
      | _, .sh (v := v) D1 .nil =>
        refine ⟨v, rfl, fun dd hdd => ?_⟩
        obtain ⟨g2, s2⟩ := s1.fresh (o := .xd [(fl, v)]) hdd
        refine q (.ref C) (some dd) H01 _ s2.hr s2.gr ⟨C, hC, rfl, ?_⟩
        rw [hf]
        exact ⟨dd, v, rfl, upd_same, D1⟩
end
theorem FnX.of {P : Program} {w : World} {K : PySem.W.Frag} {mg : Str → Option Value} {base : Heap} {x qual : Str} {st : Stmt} {f : Addr} {fd : FuncData} {N ps : List Str} {k n : Nat} {ms : XM} (F : Fun K x qual st f fd) (hm : mg x = some (.ref f)) (hb : Binds K fd ps []) (S : FnScope N ps (defScope st)) (hn : ps.length = n)
    (walk : ∀ (cdv : Value) (A : Around) (out : List PySem.Env) (s : Shared) (H : Hp) (E : XK), (A.deeper (envOfC qual (defScope st) s.heap.objs.size f cdv)).guards = some [] → Room k (A.deeper (envOfC qual (defScope st) s.heap.objs.size f cdv)) →
      MXs (cxOf (L2.CX P w) P w K mg base N qual (defScope st) f cdv A out s H E) E (defBody st) ms) : FnX P w K mg base (k + 1) x n (xFn N.length ms) := by
  refine ⟨f, fd, ps, Fun.okGX F S (fun vs H Q E h => ?_) (fun cdv A out s H vs Q E hgu hr h => ?_), hm, F.kp, hb⟩
  · obtain ⟨b, B, H0, es, _, r, hl, _⟩ := h
    rw [r.length, hl, hn]
  · obtain ⟨b, B, H0, es, hr0, r, hl, q⟩ := h
    refine ⟨_, walk cdv A out s H E hgu hr, b, H, H0, _, B, H0, SR.start hr0 r, ?_⟩
    unfold xFn at q
    cases h1 : ms (es.map some ++ List.replicate (N.length - es.length) none) B with
    | bad => rw [h1] at q; exact q.elim
    | ex c d B' => rw [h1] at q; exact fun cls dx H0' H' hr' g' e' => q cls dx H0' H' g' hr' e'
    | ok fl B' =>
      rw [h1] at q
      cases fl with
      | nx ρ' => exact fun σ' H0' H' _ s' => q .non H0' H' s'.gr s'.hr .non
      | bk ρ' => exact q.elim
      | ct ρ' => exact q.elim
      | rt e => exact fun v H0' H' hr' g' r' => q v H0' H' g' hr' r'
theorem FnX.mono {P : Program} {w : World} {K : PySem.W.Frag} {mg : Str → Option Value} {base : Heap} {x : Str} {j k n : Nat} {mf : XFM} (G : FnX P w K mg base j x n mf) (h : j ≤ k) : FnX P w K mg base k x n mf := by
  obtain ⟨f, fd, ps, F, z⟩ := G.ex
  exact ⟨f, fd, ps, F.mono h, z⟩
end Mr
namespace Mr
open PySem PySem.Spec PyProof.Rows L2
variable [Wd]
/-! ### isinstance(e, C), e the error that the suite holds, of the class C itself; e.f -/
def rIsX (C a : Addr) (cls : Value) (d : Option Addr) : List V → Hp → VK → Prop := fun xs H Q => ∃ (dd : Addr) (fs : List (Str × V)), cls = .ref C ∧ d = some dd ∧ H dd = some (.xd fs) ∧ xs = [.ref a, .ref C] ∧ Q (.bl true) H
theorem call_isX {X : Cx} {a C : Addr} {oe : Obj} {cls : Value} {d : Option Addr} {pn : List (Addr × Obj)} (T : ExcC X.K C) (hk : PySem.W.kitOne X.K (.ref C) (.ref C) = some true) (hz : Zc cls d oe) (hf : ∃ vs, oe.data = .fields vs) : CallR (X.suite a ((a, oe) :: pn)) (.builtin "isinstance") (rIsX C a cls d) := by
  intro pins s σ H xs us Q I r h
  obtain ⟨dd, fs, rfl, rfl, ed, rfl, q⟩ := h
  cases r with
  | cons rx rr =>
    cases rr with
    | cons rt rr =>
      cases rr
      cases rx
      cases rt
      obtain ⟨hget, _⟩ := I.pin (a, oe) (List.mem_append.mpr (.inl List.mem_cons_self))
      obtain ⟨vs, hv⟩ := hf
      have hx : ObjOk X.prog X.w H s.heap dd (.xd fs) := I.hok dd _ ed
      obtain ⟨mA, hns, hr⟩ := hx
      obtain ⟨od, ho, hl⟩ := lookIn_ns hns
      have J : PySem.W.InstAt s.heap a oe C (some od) := ⟨hget, hz.1, by unfold PySem.W.notCls; rw [hv] <;> rfl, by rw [hz.2]; exact ho⟩
      have hcl : (PySem.W.clsIn X.K C).isSome = true := by
        obtain ⟨cd, hc, _⟩ := PySem.W.any_some T.hd
        rw [hc]; rfl
      exact PySem.W.kia_one (PySem.W.kitx_exc hcl T.hg T.hk T.hs T.ha T.hn T.ht T.hm) I.kIn J hk (fun z => nomatch z) fun tk => ⟨.bl true, H, I.kept (t' := tk) fun _ _ z => z, rfl, q⟩
def tFldG (C : Addr) (fl : Str) (a : Addr) (cls : Value) (d : Option Addr) (te : TE) : TE := fun σ H Q => te σ H fun x H1 => x = .ref a ∧ cls = .ref C ∧ ∃ (dd : Addr) (v : V), d = some dd ∧ H1 dd = some (.xd [(fl, v)]) ∧ Q v H1
/-! ### try: return ('told', f(..)) except B as e: return ('lab', e.f) if isinstance(e, C) else .. -/
def sHear (i : Nat) (c0 lab cn : Str) (n : Nat) (mx : XFM) (ms : AM) : SM := fun ρ B => (ms ρ B).bind fun es B1 => if es.length = n ∧ i < ρ.length then (match mx es B1 with
  | .ok e B2 => (match e.data with
    | some d => .ok (.rt (.sh (.tuple [.str c0, d]))) B2
    | none => .bad)
  | .ex c d B2 => if c = cn then .ok (.rt (.sh (.tuple [.str lab, d]))) B2 else .bad
  | .bad => .bad) else .bad
section
variable {X : Cx} {k n i : Nat} {x c0 lab cn fl ce en : Str} {a : Expr} {as : List Expr} {els : Expr} {mx : XFM} {ms : AM} {C CE : Addr} {j0 j1 j2 j3} {p0 p1 p2 p3 p4 p5 p6 p7 p8 p9 p10 p11 p12 p13 p14 p15 p16 pos : Pos} {te : TE}
theorem ms_hear (G : FnX X.prog X.w X.K X.mg X.base k x n mx) (hgu : X.A.guards = some []) (hr : Room k X.A) (hg : Gl X x) (hs : X.stack = X.env :: X.outer) (hf : X.env.frame = some X.env.locals) (hN : X.N.Nodup) (hi : X.N[i]? = some en) (hln : X.env.kindOf en = some .local)
    (hce : Names X ce (.ref CE)) (hcn : X.mg cn = some (.ref C)) (gcn : Gl X cn) (hfl : fldOf cn = some fl) (hex : PySem.W.exmOne X.K (.ref C) (.ref CE) = some true) (T : ExcC X.K C) (hki : PySem.W.kitOne X.K (.ref C) (.ref C) = some true)
    (gis : Gl X "isinstance") (his : X.mg "isinstance" = none)
    (ha : ∀ (pn : List (Addr × Obj)) (xe : Value → Shared → Prop), MA (X.tr pn xe) (a :: as) ms)
    (hfd : ∀ (q : Addr) (oe : Obj) (cls : Value) (d : Option Addr) (pn : List (Addr × Obj)), Zc cls d oe → (∃ vs, oe.data = .fields vs) → PE (X.suite q ((q, oe) :: pn)) (.Attribute (.Name en p11) fl p12) (tFldG C fl q cls d (tVar i)))
    (hev : ∀ (q : Addr) (pn : List (Addr × Obj)) (p : Pos), PE (X.suite q pn) (.Name en p) (tVar i))
    (hels : ∀ (q : Addr) (pn : List (Addr × Obj)), PE (X.suite q pn) els te)
    (hdb : (x == ("__debug__" : Str)) = false := by decide) (hdc : (cn == ("__debug__" : Str)) = false := by decide)
    (he : starEach (a :: as) X.env = (false, eval a X.env) :: starEach as X.env := by rfl) (hpl : (backTo p2 (starEach as X.env)).any (·.1) = false := by rfl)
    (h1 : starEach [Expr.Constant (.str c0) j0 p0, .Call (.Name x p1) (a :: as) [] p2] X.env = (false, eval (.Constant (.str c0) j0 p0) X.env) :: starEach [.Call (.Name x p1) (a :: as) [] p2] X.env := by rfl)
    (h2 : starEach [Expr.Call (.Name x p1) (a :: as) [] p2] X.env = (false, eval (.Call (.Name x p1) (a :: as) [] p2) X.env) :: starEach [] X.env := by rfl)
    (h3 : starEach [Expr.Name en p7, .Name cn p8] X.env = (false, eval (.Name en p7) X.env) :: starEach [.Name cn p8] X.env := by rfl) (h4 : starEach [Expr.Name cn p8] X.env = (false, eval (.Name cn p8) X.env) :: starEach [] X.env := by rfl)
    (h5 : starEach [Expr.Constant (.str lab) j2 p10, .Attribute (.Name en p11) fl p12] X.env = (false, eval (.Constant (.str lab) j2 p10) X.env) :: starEach [.Attribute (.Name en p11) fl p12] X.env := by rfl)
    (h6 : starEach [Expr.Attribute (.Name en p11) fl p12] X.env = (false, eval (.Attribute (.Name en p11) fl p12) X.env) :: starEach [] X.env := by rfl)
    (h7 : (backTo p9 (starEach [.Name cn p8] X.env)).any (·.1) = false := by rfl)
    (h8 : ∀ whole, isTrue (.Call (.Name "isinstance" p6) [.Name en p7, .Name cn p8] [] p9) X.env whole = (do let v ← whole; standAt (Expr.Call (.Name "isinstance" p6) [.Name en p7, .Name cn p8] [] p9).pos; holding [v] (truthy v)) := by intro _; rfl) :
    MS X (.Try [.Return (some (.Tuple [.Constant (.str c0) j0 p0, .Call (.Name x p1) (a :: as) [] p2] j1 p3)) p4] [.ExceptHandler (some (.Name ce p5)) (some en) [.Return (some (.IfExp (.Call (.Name "isinstance" p6) [.Name en p7, .Name cn p8] [] p9) (.Tuple [.Constant (.str lab) j2 p10, .Attribute (.Name en p11) fl p12] j3 p13) els p14)) p15] p16] [] [] pos) (sHear i c0 lab cn n mx ms) := by
  obtain ⟨f, fd, ps, F, hm, hk, hb⟩ := G.ex
  refine PS.weak (ps_try_as (i := i) (tb := fun W => tRet (tTup (tCons (tC (.str c0)) (tCons (fun σ H Q => rdA ms σ H fun vs H1 => spX X.mg n mx vs H1 Q (WE W σ)) tNil)))) (Wout := fun _ _ _ _ => False)
    (ts := fun q cls d => tRet (tIf (fun σ H Q => (tCB (rIsX C q cls d) (tCons (tVar i) (tCons (tC (.ref C)) tNil))) σ H fun y H' => ∃ kk, TruV X.K y H' kk ∧ Q kk H') (tTup (tCons (tC (.str lab)) (tCons (tFldG C fl q cls d (tVar i)) tNil))) te))
    hs hf hN hi hln hce takes0 (fun W pn xe tk _ => pss_one (ps_ret (pe_tup (pa_cons pe_str (pa_cons (pe_callGX (X := X.tr pn xe) (E := WE W) F hgu hr hg hm hk hb (fun σ => passAt tk σ) (ha pn xe) hdb he hpl) pa_nil h2) h1))))
    (fun q oe cls d pn hz hv => pss_one (ps_ret (pe_ifExp (pt_truth (pe_callB (call_isX T hki hz hv) gis his PyProof.Rows.boot_isinstance (pa_cons (hev q _ p7) (pa_cons (pe_glob gcn hcn rfl hdc) pa_nil h4) h3) (by decide) (by decide) h3 h7) h8) (pe_tup (pa_cons pe_str (pa_cons (hfd q oe cls d pn hz hv) pa_nil h6) h5)) (hels q _))))) fun D σ H ⟨b, He, H0e, ρ, B, H0, s, q⟩ => ?_
  unfold sHear at q
  cases e1 : ms ρ B with
  | bad => rw [e1] at q; exact q.elim
  | ok es B1 =>
    rw [e1, bind_ok] at q
    by_cases hl : es.length = n ∧ i < ρ.length
    · rw [if_pos hl] at q
      refine rdA_at s e1 fun vs H01 H1 g1 s1 r1 => ⟨b, B1, H01, es, s1.hr, r1, hl.1, ?_⟩
      cases e2 : mx es B1 with
      | bad => rw [e2] at q; exact q.elim
      | ok e B2 =>
        rw [e2] at q
        dsimp only at q
        intro v H02 H2 g2 hr2 r2
        have s2 := s1.more g2 hr2
        cases hd : e.data with
        | none => simp only [hd] at q; exact q.elim
        | some d =>
          simp only [hd] at q
          obtain ⟨H03, g3, s3, D1⟩ := s1.data g2 s2 r2 hd
          refine ⟨by show 2 ≤ sizeLine; decide, fun p hp => ?_⟩
          obtain ⟨H05, g5, s5, r5⟩ := NewRes.ok (z := .ref p) (e := .sh (.tuple [.str c0, d])) (H' := upd H2 p (.tup [.str c0, v])) s3 (.inr ⟨p, _, _, rfl, rfl, hp, rfl, .cons (.str c0) (.cons D1 .nil)⟩)
          exact q _ H05 _ s5.hr s5.gr r5
      | ex c d B2 =>
        rw [e2] at q
        dsimp only at q
        by_cases hc : c = cn
        · rw [if_pos hc] at q
          subst hc
          intro cls dx H02 H2 g2 hr2 err
          have s2 := s1.more g2 hr2
          obtain ⟨C', hC', rfl, em⟩ := err
          rw [hcn] at hC'
          cases hC'
          rw [hfl] at em
          obtain ⟨dd, v, rfl, hdd, D1⟩ := em
          refine ⟨true, hex, fun _ q' hq' => ?_, fun z => nomatch z⟩
          have iv : (σ.set i (some (.ref q')))[i]? = some (some (.ref q')) := List.getElem?_set_self (by rw [s.len]; exact hl.2)
          refine ⟨_, iv, dd, _, rfl, rfl, hdd, rfl, true, rfl, ?_⟩
          dsimp only
          rw [if_pos rfl]
          refine ⟨_, iv, rfl, rfl, dd, v, rfl, hdd, by show 2 ≤ sizeLine; decide, fun p hp => ?_⟩
          obtain ⟨H05, g5, s5, r5⟩ := NewRes.ok (z := .ref p) (e := .sh (.tuple [.str lab, d])) (H' := upd H2 p (.tup [.str lab, v])) s2 (.inr ⟨p, _, _, rfl, rfl, hp, rfl, .cons (.str lab) (.cons D1 .nil)⟩)
          exact q _ H05 _ s5.hr s5.gr r5
        · rw [if_neg hc] at q; exact q.elim
    · rw [if_neg hl] at q; exact q.elim
end
end Mr
namespace Mr
open PySem PySem.Spec PyProof.Rows L2
variable [Wd]
/-! ### a def with one keyword-only parameter that has a default -/
structure FnMD (P : Program) (w : World) (K : PySem.W.Frag) (mg : Str → Option Value) (base : Heap) (k : Nat) (x : Str) (n : Nat) (kn : Str) (dv : Bool) (mf : FM) : Prop where
  ex : ∃ f fd ps, FnG P w K mg base k f fd ps (spM (n + 1) mf) ∧ mg x = some (.ref f) ∧ PySem.W.keepIn K (.ref f) = true ∧ ps.length = n + 1 ∧ (∃ u, RelV (.bl dv) u ∧ Binds K fd ps [u]) ∧ KBn K fd ps n [kn] (fun us ws => us ++ ws) (fun vs zs => vs ++ zs)
def addD (dv : Bool) (mf : FM) : FM := fun es B => mf (es ++ [.sh (.bool dv)]) B
def eCallK (n : Nat) (mf : FM) (ms : AM) (mk : EM) : EM := fun ρ B => (ms ρ B).bind fun es B1 => (mk ρ B1).bind fun ek B2 => if es.length = n then (match ek.data with
  | some d => mf (es ++ [.sh d]) B2
  | none => .bad) else .bad
theorem VRs.snoc {b : Addr × Addr} {H0 : Hp} {vs : List V} {es : List EV} (h : VRs b H0 vs es) {v : V} {d : PyData} (hd : Dn H0 v d) : VRs b H0 (vs ++ [v]) (es ++ [.sh d]) := by
  induction h with
  | nil => exact .sh hd .nil
  | sh a _ ih => exact .sh a ih
  | bg _ ih => exact .bg ih
section
variable {X : Cx} {k n : Nat} {x kn : Str} {dv : Bool} {mf : FM} {e a : Expr} {es : List Expr} {ms : AM} {mk : EM} {p pos kpos : Pos}
theorem runGL {f : Addr} {fd : FuncData} {ps : List Str} {sp : Sp} {pins : List (Addr × Obj)} {σ : L2.St} {H : Hp} {s : Shared} {Q : VK} {gs : Args} {us : List Value} {vs : List V}
    (F : FnG X.prog X.w X.K X.mg X.base k f fd ps sp) (hgu : X.A.guards = some []) (hr : Room k X.A) (hb : BindsTo s fd gs (ps.zip us)) (I : Inv X pins σ H s) (r : Vals vs us) (h : sp vs H Q E0) : wpAny (model X.prog X.w) X.A (call (.ref f) gs.pos gs.kw) (EP X pins σ Q) X.xe s := by
  have z := F.grun X.A X.stack s H gs us vs Q E0 hgu hr I.env0 hb r h
  refine wpAny_call (codeAny_mono z fun res s' hq => ?_)
  match res, hq with
  | .error e, hq => exact hq.elim
  | .ok (.ret u), hq => exact I.after hq
theorem me_callD (G : FnMD X.prog X.w X.K X.mg X.base k x n kn dv mf) (hgu : X.A.guards = some []) (hr : Room k X.A) (hg : Gl X x) (ha : MA X (e :: es) ms)
    (hdb : (x == ("__debug__" : Str)) = false := by decide) (he : starEach (e :: es) X.env = (false, eval e X.env) :: starEach es X.env := by rfl) (hpl : (backTo pos (starEach es X.env)).any (·.1) = false := by rfl) :
    ME X (.Call (.Name x p) (e :: es) [] pos) (eCall n (addD dv mf) ms) := by
  obtain ⟨f, fd, ps, F, hm, hk, hps, ⟨u, ru, hb⟩, _⟩ := G.ex
  refine ⟨fun pins s σ H Q I h => wpAny_Call_Name_kw (ld_glob I hg hm (PySem.W.callWith_K (h₀ := X.base) I.ok.mod.kin hk (thn (ha.run pos pins s σ H (fun vs H1 => spM (n + 1) mf (vs ++ [.bl dv]) H1 Q E0 ∧ vs.length = n) I ?_) fun us s1 hz => ?_) he hpl) hdb)⟩
  · obtain ⟨b, He, H0e, ρ, B, H0, s', q⟩ := h
    unfold eCall addD at q
    cases h1 : ms ρ B with
    | bad => rw [h1] at q; exact q.elim
    | ok es1 B1 =>
      rw [h1, bind_ok] at q
      refine rdA_at s' h1 fun vs H01 H1 g1 s1 r1 => ?_
      by_cases hn : es1.length = n
      · simp only [if_pos hn] at q
        refine ⟨⟨b, B1, H01, es1 ++ [.sh (.bool dv)], s1.hr, r1.snoc (.bl dv), by simp [hn], ?_⟩, by rw [r1.length, hn]⟩
        cases h2 : mf (es1 ++ [.sh (.bool dv)]) B1 with
        | bad => rw [h2] at q; exact q.elim
        | ok e2 B2 =>
          rw [h2] at q
          intro v H02 H2 g2 hr2 r2
          exact q v H02 H2 (g1.trans g2) (s1.more g2 hr2) (r2.back g1)
      · simp only [if_neg hn] at q
  · obtain ⟨vs, H1, I1, rv, z, hl⟩ := hz
    refine ⟨I1.kIn, runGL (gs := ⟨us, []⟩) (us := us ++ [u]) F hgu hr (hb s1 us I1.kIn ?_) I1 (rv.append (.cons ru .nil)) z⟩
    rw [List.length_append, ← rv.length, hl, hps]
    rfl
theorem me_callK (G : FnMD X.prog X.w X.K X.mg X.base k x n kn dv mf) (hgu : X.A.guards = some []) (hr : Room k X.A) (hg : Gl X x) (ha : MA X (e :: es) ms) (hv : ME X a mk)
    (hall : (backToKw pos (keywordEach [⟨some kn, a, kpos⟩] X.env)).all (·.1.isSome) = true := by rfl) (hks : (backToKw pos (keywordEach [⟨some kn, a, kpos⟩] X.env)).filterMap (·.1) = [kn] := by rfl)
    (hdb : (x == ("__debug__" : Str)) = false := by decide) (he : starEach (e :: es) X.env = (false, eval e X.env) :: starEach es X.env := by rfl)
    (hpl : ((backTo pos (starEach (e :: es) X.env)).any (·.1) || (backToKw pos (keywordEach [⟨some kn, a, kpos⟩] X.env)).any (·.1.isNone)) = false := by rfl) :
    ME X (.Call (.Name x p) (e :: es) [⟨some kn, a, kpos⟩] pos) (eCallK n mf ms mk) := by
  obtain ⟨f, fd, ps, F, hm, hk, hps, _, hb⟩ := G.ex
  have hkw : PK X [⟨some kn, a, kpos⟩] (tCons (rdE mk) tNil) := pk_cons hv pk_nil
  refine ⟨fun pins s σ H Q I h => wpAny_Call_Name_kw (ld_glob I hg hm ?_ hdb)⟩
  refine PySem.W.callWith_KW (h₀ := X.base) I.ok.mod.kin hk hall (thn (ha.run pos pins s σ H (fun vs H1 => tCons (rdE mk) tNil σ H1 fun zs H2 => vs.length = n ∧ zs.length = 1 ∧ spM (n + 1) mf (vs ++ zs) H2 Q E0) I ?_) fun us s1 ⟨vs, H1, I1, r, q⟩ => ?_) hpl he
  · obtain ⟨b, He, H0e, ρ, B, H0, s', q⟩ := h
    unfold eCallK at q
    cases h1 : ms ρ B with
    | bad => rw [h1] at q; exact q.elim
    | ok es1 B1 =>
      rw [h1, bind_ok] at q
      refine rdA_at s' h1 fun vs H01 H1 g1 s1 r1 => ?_
      cases h2 : mk ρ B1 with
      | bad => rw [h2] at q; exact q.elim
      | ok ek B2 =>
        rw [h2, bind_ok] at q
        refine rdE_at s1 h2 fun y H02 H2 g2 s2 r2 => ?_
        by_cases hn : es1.length = n
        · simp only [if_pos hn] at q
          cases hd : ek.data with
          | none => simp only [hd] at q
          | some d =>
            obtain ⟨H03, g3, s3, D1⟩ := s1.data g2 s2 r2 hd
            simp only [hd] at q
            refine ⟨by rw [r1.length, hn], rfl, b, B2, H03, es1 ++ [.sh d], s3.hr, (VRs.mono g3.l0 r1).snoc D1, by simp [hn], ?_⟩
            cases h3 : mf (es1 ++ [.sh d]) B2 with
            | bad => rw [h3] at q; exact q.elim
            | ok e2 B3 =>
              rw [h3] at q
              intro v H04 H4 g4 hr4 r4
              exact q v H04 H4 ((g1.trans g3).trans g4) (s3.more g4 hr4) (r4.back (g1.trans g3))
        · simp only [if_neg hn] at q
  · refine thn (hkw.run pos pins s1 σ H1 _ I1 q) fun ws s2 ⟨zs, H2, I2, rz, l1, l2, q2⟩ => ⟨I2.kIn, ?_⟩
    rw [hks]
    exact runGL (gs := ⟨us, [kn].zip ws⟩) (us := us ++ ws) F hgu hr (hb.to s2 us ws I2.kIn (r.length.symm.trans l1) (rz.length.symm.trans l2)) I2 (r.append rz) q2
end
theorem FnMD.of {P : Program} {w : World} {K : PySem.W.Frag} {mg : Str → Option Value} {base : Heap} {x qual : Str} {st : Stmt} {f : Addr} {fd : FuncData} {N ps : List Str} {k n : Nat} {kn : Str} {dv : Bool} {ms : SM} (F : Fun K x qual st f fd) (hm : mg x = some (.ref f)) (S : FnScope N ps (defScope st)) (hn : ps.length = n + 1)
    (hb : ∃ u, RelV (.bl dv) u ∧ Binds K fd ps [u]) (hk : KBn K fd ps n [kn] (fun us ws => us ++ ws) (fun vs zs => vs ++ zs))
    (walk : ∀ (cdv : Value) (A : Around) (out : List PySem.Env) (s : Shared) (H : Hp) (E : XK), (A.deeper (envOfC qual (defScope st) s.heap.objs.size f cdv)).guards = some [] → Room k (A.deeper (envOfC qual (defScope st) s.heap.objs.size f cdv)) →
      MSs (cxOf CX0 P w K mg base N qual (defScope st) f cdv A out s H E).nox (defBody st) ms) : FnMD P w K mg base (k + 1) x n kn dv (mfn N.length ms) := by
  refine ⟨f, fd, ps, Fun.okG F S (fun vs H Q E h => ?_) (fun cdv A out s H vs Q E hgu hr h => ?_), hm, F.kp, hn, hb, hk⟩
  · obtain ⟨b, B, H0, es, _, r, hl, _⟩ := h
    rw [r.length, hl, hn]
  · obtain ⟨b, B, H0, es, hr0, r, hl, q⟩ := h
    refine ⟨_, walk cdv A out s H E hgu hr, b, H, H0, _, B, H0, SR.start hr0 r, ?_⟩
    unfold mfn at q
    cases h1 : ms (es.map some ++ List.replicate (N.length - es.length) none) B with
    | bad => rw [h1] at q; exact q.elim
    | ok fl B' =>
      rw [h1] at q
      cases fl with
      | nx ρ' => exact fun σ' H0' H' _ s' => q .non H0' H' s'.gr s'.hr .non
      | bk ρ' => exact q.elim
      | ct ρ' => exact q.elim
      | rt e => exact fun v H0' H' hr' g' r' => q v H0' H' g' hr' r'
end Mr
namespace Mr
open PySem PySem.Spec PyProof.Rows L2
variable [Wd]
/-! drawn kinds are kinds -/
def low (x : Str) : Bool := x.cps.toList.all fun c => decide (97 ≤ c) && decide (c ≤ 122)
def Kl (d : PyData) : Prop := ∃ x : Str, d = .str x ∧ low x = true ∧ 0 < x.cps.size ∧ x.cps.size ≤ 8
theorem Kl.kd {d : PyData} (h : Kl d) : Kd d := by
  obtain ⟨x, rfl, h1, h2, h3⟩ := h
  refine ⟨x, rfl, ?_, h3⟩
  simp only [low, asc, List.all_eq_true, Bool.and_eq_true, decide_eq_true_eq] at h1 ⊢
  intro c hc
  have := h1 c hc
  omega
theorem sorted_strsL {ds : List PyData} (h : ∀ d ∈ ds, Kl d) (hl : ds.length ≤ sizeLine) : ∃ es, gSorted [.list ds] = some (.ow (.list es)) ∧ es.length = ds.length ∧ ∀ d ∈ es, Kl d := by
  refine ⟨ds.mergeSort leD, ?_, List.length_mergeSort .., fun d hd => h d (List.mem_mergeSort.mp hd)⟩
  simp only [gSorted]
  rw [strs_sortOk (fun d hd => by obtain ⟨x, e, _⟩ := h d hd; exact ⟨x, e⟩) hl]
  rfl
theorem kl_of {x : Str} (h : (low x && (decide (0 < x.cps.size) && decide (x.cps.size ≤ 8))) = true) : Kl (.str x) := by
  simp only [Bool.and_eq_true, decide_eq_true_eq] at h
  exact ⟨x, rfl, h.1, h.2.1, h.2.2⟩
theorem menu_kl : ∀ d ∈ menuD, Kl d := by
  intro d hd
  simp only [menuD, List.mem_cons, List.not_mem_nil, or_false] at hd
  rcases hd with rfl | rfl | rfl | rfl | rfl | rfl | rfl | rfl | rfl | rfl | rfl | rfl <;> exact kl_of (by decide +kernel)
theorem eight_kl : ∀ d ∈ eightD, Kl d := by
  intro d hd
  simp only [eightD, List.mem_cons, List.not_mem_nil, or_false] at hd
  rcases hd with rfl | rfl | rfl | rfl | rfl | rfl | rfl | rfl <;> exact kl_of (by decide +kernel)
theorem letter_ixL (k : Nat) (h : k < 26) : ∃ x : Str, gIx (.str "abcdefghijklmnopqrstuvwxyz") (.int (k : Int)) = some (.sh (.str x)) ∧ low x = true ∧ x.cps.size = 1 := by
  have key : ∀ k : Fin 26, ∃ c : Nat, atI (Str.ofString "abcdefghijklmnopqrstuvwxyz").cps.toList ((k.1 : Nat) : Int) = some c ∧ 97 ≤ c ∧ c ≤ 122 := by
    intro k
    have : ∀ k : Fin 26, (match atI (Str.ofString "abcdefghijklmnopqrstuvwxyz").cps.toList ((k.1 : Nat) : Int) with | some c => decide (97 ≤ c ∧ c ≤ 122) | none => false) = true := by decide +kernel
    have := this k
    cases hc : atI (Str.ofString "abcdefghijklmnopqrstuvwxyz").cps.toList ((k.1 : Nat) : Int) with
    | none => rw [hc] at this; cases this
    | some c => rw [hc] at this; exact ⟨c, rfl, of_decide_eq_true this⟩
  obtain ⟨c, hc, h1, h2⟩ := key ⟨k, h⟩
  refine ⟨⟨#[c]⟩, ?_, by simp [low, h1, h2], rfl⟩
  have hz : (Str.ofString "abcdefghijklmnopqrstuvwxyz").length ≤ sizeLine := sz (by decide +kernel)
  simp only [gIx, if_pos hz, hc, Option.map_some]
theorem app_kl {x y : Str} {a b : Nat} (hx : low x = true) (hy : low y = true) (lx : x.cps.size ≤ a) (ly : y.cps.size ≤ b) (h : a + b ≤ 8) (hp : 0 < y.cps.size) : gAdd (.str x) (.str y) = some (.sh (.str (x ++ y))) ∧ Kl (.str (x ++ y)) := by
  have e : (x ++ y).cps = x.cps ++ y.cps := rfl
  have l1 : x.length = x.cps.size := rfl
  have l2 : y.length = y.cps.size := rfl
  constructor
  · simp only [gAdd]
    rw [if_pos (sz (by omega))]
  · refine ⟨_, rfl, ?_, ?_, ?_⟩
    · simp only [low, e, Array.toList_append, List.all_append, Bool.and_eq_true] at hx hy ⊢
      exact ⟨hx, hy⟩
    · rw [e, Array.size_append]; omega
    · rw [e, Array.size_append]; omega
theorem stem_ixL (r : Nat) (h : r < 3) : ∃ x : Str, gSl none (some (r : Int)) (.str "xq") = some (.sh (.str x)) ∧ low x = true ∧ x.cps.size ≤ 2 := by
  have hz : (Str.ofString "xq").length ≤ sizeLine := sz (by decide +kernel)
  refine ⟨cutS "xq" none (some (r : Int)), ?_, ?_⟩
  · simp only [gSl, if_pos hz]
  · match r, h with
    | 0, _ => exact ⟨by decide +kernel, by decide +kernel⟩
    | 1, _ => exact ⟨by decide +kernel, by decide +kernel⟩
    | 2, _ => exact ⟨by decide +kernel, by decide +kernel⟩
theorem elem_okL (n way turn : Nat) {stem : Str} (as : low stem = true) (ls : stem.cps.size ≤ 2) (d : PyData) (hd : d ∈ rangeD 0 (n : Int)) (B : Bag) (ok : BagOk B) :
    ∃ ρ1 e B2 x, fName 6 d [some .bg, some (.sh (.int (n : Int))), some (.sh (.list menuD)), some (.sh (.str stem)), some (.sh (.int (way : Int))), some (.sh (.int (turn : Int))), none] = some ρ1 ∧
      eBin gAdd (eVar 3) (eBin gIx (eC (.str "abcdefghijklmnopqrstuvwxyz")) (eBin gMod (eCB gInt (aCons (eBin gAdd (eBin gMul (eC (.int 2)) (eVar 5)) (eBin gMul (eC (.int 3)) (eVar 6))) aNil)) (eC (.int 26)))) ρ1 B = .ok e B2 ∧ e.data = some x ∧ Kl x ∧ BagOk B2 := by
  simp only [rangeD, List.mem_map, List.mem_range] at hd
  obtain ⟨k, hk, rfl⟩ := hd
  have ek : (0 : Int) + (k : Int) = (k : Int) := by omega
  rw [ek]
  have lt : (2 * turn + 3 * k) % 26 < 26 := Nat.mod_lt _ (by decide)
  obtain ⟨x, hx, ax, lx⟩ := letter_ixL ((2 * turn + 3 * k) % 26) lt
  obtain ⟨h1, h2⟩ := app_kl as ax ls (Nat.le_of_eq lx) (by decide) (by omega)
  refine ⟨[some .bg, some (.sh (.int (n : Int))), some (.sh (.list menuD)), some (.sh (.str stem)), some (.sh (.int (way : Int))), some (.sh (.int (turn : Int))), some (.sh (.int (k : Int)))], .sh (.str (stem ++ x)), B, _, rfl, ?_, rfl, h2, ok⟩
  have m1 : gMul (.int 2) (.int (turn : Int)) = some (.sh (.int (2 * (turn : Int)))) := by simp [gMul]
  have m2 : gMul (.int 3) (.int (k : Int)) = some (.sh (.int (3 * (k : Int)))) := by simp [gMul]
  have m3 : gMod (.int (2 * (turn : Int) + 3 * (k : Int))) (.int 26) = some (.sh (.int (((2 * turn + 3 * k) % 26 : Nat) : Int))) := by
    simp [gMod]
  refine bin_ok (B1 := B) (B2 := B) (e1 := .sh (.str stem)) (e2 := .sh (.str x)) rfl ?_ rfl rfl h1
  refine bin_ok (B1 := B) (B2 := B) (e1 := .sh (.str "abcdefghijklmnopqrstuvwxyz")) (e2 := .sh (.int (((2 * turn + 3 * k) % 26 : Nat) : Int))) rfl ?_ rfl rfl hx
  refine bin_ok (B1 := B) (B2 := B) (e1 := .sh (.int (2 * (turn : Int) + 3 * (k : Int)))) (e2 := .sh (.int 26)) ?_ rfl rfl rfl m3
  simp only [eCB, aCons, eBin, eC, eVar, aNil, bind_ok, List.getElem?_cons_zero, List.getElem?_cons_succ, EV.data, Option.bind_some, m1, m2, liftO_some, gAdd, EV.share, dataAll, Option.map_some, gInt]
theorem kinds_ylL {B : Bag} (ok : BagOk B) (n : Nat) (hn : n ≤ 8) : ∃ ks e B', m_L_kinds [.bg, .sh (.int (n : Int))] B = .ok e B' ∧ e.share = .sh (.list ks) ∧ BagOk B' ∧ ks.length = n ∧ ∀ d ∈ ks, Kl d := by
  have e0 : ([EV.bg, EV.sh (.int (n : Int))].map some ++ List.replicate (7 - [EV.bg, EV.sh (.int (n : Int))].length) none) = [some .bg, some (.sh (.int (n : Int))), none, none, none, none, none] := rfl
  obtain ⟨way, B1, t1, ok1, hw⟩ := eTake ok (ρ := [some .bg, some (.sh (.int (n : Int))), none, none, none, none, none]) (j := 0) rfl 4 (by decide) (by decide)
  obtain ⟨turn, B2, t2, ok2, ht⟩ := eTake ok1 (ρ := [some .bg, some (.sh (.int (n : Int))), none, none, none, none, none]) (j := 0) rfl 12 (by decide) (by decide)
  unfold m_L_kinds mfn
  rw [e0]
  have s1 : sUnp (fTup 2 (fCons (fName 4) (fCons (fName 5) fNil))) (eTup (aCons (eCall 2 m_L_take (aCons (eVar 0) (aCons (eC (.int 4)) aNil))) (aCons (eCall 2 m_L_take (aCons (eVar 0) (aCons (eC (.int 12)) aNil))) aNil))) [some .bg, some (.sh (.int (n : Int))), none, none, none, none, none] B
      = .ok (.nx [some .bg, some (.sh (.int (n : Int))), none, none, some (.sh (.int (way : Int))), some (.sh (.int (turn : Int))), none]) B2 := by
    have two : (2 : Nat) ≤ sizeLine := sz (by decide)
    simp only [sUnp, eTup]
    rw [show aCons (eCall 2 m_L_take (aCons (eVar 0) (aCons (eC (.int 4)) aNil))) (aCons (eCall 2 m_L_take (aCons (eVar 0) (aCons (eC (.int 12)) aNil))) aNil) [some .bg, some (.sh (.int (n : Int))), none, none, none, none, none] B = .ok [.sh (.int (way : Int)), .sh (.int (turn : Int))] B2 by
      rw [aCons, show eCall 2 m_L_take (aCons (eVar 0) (aCons (eC (.int 4)) aNil)) [some .bg, some (.sh (.int (n : Int))), none, none, none, none, none] B = _ from t1, bind_ok, aCons, show eCall 2 m_L_take (aCons (eVar 0) (aCons (eC (.int 12)) aNil)) [some .bg, some (.sh (.int (n : Int))), none, none, none, none, none] B1 = _ from t2, bind_ok]
      rfl]
    simp only [bind_ok, dataAll, Option.map_some, List.length_cons, List.length_nil, if_pos two]
    rfl
  have s2 : ∀ ρ5 B5, sSetS 2 (eLst (aCons (eC (.str "a")) (aCons (eC (.str "aa")) (aCons (eC (.str "b")) (aCons (eC (.str "ab")) (aCons (eC (.str "ba")) (aCons (eC (.str "z")) (aCons (eC (.str "zz")) (aCons (eC (.str "hook")) (aCons (eC (.str "end")) (aCons (eC (.str "zzzzzzzz")) (aCons (eC (.str "true")) (aCons (eC (.str "mm")) aNil))))))))))))) [some .bg, some (.sh (.int (n : Int))), none, none, ρ5, some (.sh (.int (turn : Int))), none] B5
      = .ok (.nx [some .bg, some (.sh (.int (n : Int))), some (.sh (.list menuD)), none, ρ5, some (.sh (.int (turn : Int))), none]) B5 := by
    intro ρ5 B5
    have two : (12 : Nat) ≤ sizeLine := sz (by decide)
    simp only [sSetS, eLst, aCons, eC, aNil, bind_ok, EV.share, dataAll, Option.map_some, List.length_cons, List.length_nil, if_pos two]
    rfl
  rw [seq_nx s1, seq_nx (s2 _ _)]
  generalize hρ : [some EV.bg, some (EV.sh (.int (n : Int))), some (EV.sh (.list menuD)), none, some (EV.sh (.int (way : Int))), some (EV.sh (.int (turn : Int))), none] = ρ
  have v0 : ρ[0]? = some (some EV.bg) := by rw [← hρ]; rfl
  have v1 : eVar 1 ρ B2 = .ok (.sh (.int (n : Int))) B2 := by rw [← hρ]; rfl
  have v2 : eVar 2 ρ B2 = .ok (.sh (.list menuD)) B2 := by rw [← hρ]; rfl
  have v4 : eVar 4 ρ B2 = .ok (.sh (.int (way : Int))) B2 := by rw [← hρ]; rfl
  have v5 : eVar 5 ρ B2 = .ok (.sh (.int (turn : Int))) B2 := by rw [← hρ]; rfl
  have c0 : ∀ k : Nat, tBool (eBin gEq (eVar 4) (eC (.int (k : Int)))) ρ B2 = .ok (decide (way = k)) B2 := fun k => boolT (bin_ok v4 (show eC (.int (k : Int)) ρ B2 = .ok (.sh (.int (k : Int))) B2 from rfl) rfl rfl (eq_nat way k))
  by_cases w0 : way = 0
  · have c : tBool (eBin gEq (eVar 4) (eC (.int 0))) ρ B2 = .ok (decide (way = 0)) B2 := c0 0
    rw [decide_eq_true w0] at c
    have l24 : (menuD ++ menuD).length = 24 := rfl
    have a1 : gAdd (.list menuD) (.list menuD) = some (.ow (.list (menuD ++ menuD))) := by
      simp only [gAdd]
      rw [if_pos (sz (by decide))]
    have sl : eSl (eBin gAdd (eVar 2) (eVar 2)) (oSome (eVar 5)) (oSome (eBin gAdd (eVar 5) (eVar 1))) ρ B2 = .ok (.ow (.list (cutL (menuD ++ menuD) (some (turn : Int)) (some ((turn + n : Nat) : Int))))) B2 := by
      have x1 := bin_ok (g := gAdd) v2 v2 rfl rfl a1
      have x2 : eBin gAdd (eVar 5) (eVar 1) ρ B2 = .ok (.sh (.int ((turn : Int) + (n : Int)))) B2 := bin_ok v5 v1 rfl rfl rfl
      unfold eSl oSome
      rw [x1, bind_ok, v5, bind_ok]
      show (Out.ok (some (turn : Int)) B2).bind _ = _
      rw [bind_ok, x2, bind_ok]
      show (Out.ok (some ((turn : Int) + (n : Int))) B2).bind _ = _
      rw [bind_ok]
      rfl
    have mem : ∀ d ∈ cutL (menuD ++ menuD) (some (turn : Int)) (some ((turn + n : Nat) : Int)), Kl d := by
      intro d hd
      rw [cutL_nat] at hd
      have := List.mem_of_mem_drop (List.mem_of_mem_take hd)
      rcases List.mem_append.mp this with h | h <;> exact menu_kl d h
    have len : (cutL (menuD ++ menuD) (some (turn : Int)) (some ((turn + n : Nat) : Int))).length = n := by
      rw [cutL_nat, List.length_take, List.length_drop, l24]
      omega
    obtain ⟨es, he, hl, hk⟩ := sorted_strsL mem (sz (by rw [len]; omega))
    have rt : eCB gSorted (aCons (eSl (eBin gAdd (eVar 2) (eVar 2)) (oSome (eVar 5)) (oSome (eBin gAdd (eVar 5) (eVar 1)))) aNil) ρ B2 = .ok (.ow (.list es)) B2 := by
      simp only [eCB, aCons, sl, aNil, bind_ok, EV.share, dataAll, Option.map_some, Option.bind_some, he, liftO_some]
    refine ⟨es, .ow (.list es), B2, ?_, rfl, ok2, by rw [hl, len], hk⟩
    rw [seq_rt (by rw [if_t c]; exact ret_ok rt)]
  · have cF : tBool (eBin gEq (eVar 4) (eC (.int 0))) ρ B2 = .ok (decide (way = 0)) B2 := c0 0
    rw [decide_eq_false w0] at cF
    rw [seq_nx (by rw [if_f cF]; rfl)]
    by_cases w1 : way = 1
    · have c : tBool (eBin gEq (eVar 4) (eC (.int 1))) ρ B2 = .ok (decide (way = 1)) B2 := c0 1
      rw [decide_eq_true w1] at c
      have sl : eSl (eLst (aCons (eC (.str "a")) (aCons (eC (.str "b")) (aCons (eC (.str "c")) (aCons (eC (.str "d")) (aCons (eC (.str "e")) (aCons (eC (.str "f")) (aCons (eC (.str "g")) (aCons (eC (.str "h")) aNil))))))))) oNone (oSome (eVar 1)) ρ B2 = .ok (.ow (.list (cutL eightD none (some (n : Int))))) B2 := by
        have x1 : eLst (aCons (eC (.str "a")) (aCons (eC (.str "b")) (aCons (eC (.str "c")) (aCons (eC (.str "d")) (aCons (eC (.str "e")) (aCons (eC (.str "f")) (aCons (eC (.str "g")) (aCons (eC (.str "h")) aNil)))))))) ρ B2 = .ok (.ow (.list eightD)) B2 := by
          have two : (8 : Nat) ≤ sizeLine := sz (by decide)
          simp only [eLst, aCons, eC, aNil, bind_ok, EV.share, dataAll, Option.map_some, List.length_cons, List.length_nil, if_pos two]
          rfl
        unfold eSl oSome oNone
        rw [x1, bind_ok, bind_ok, v1, bind_ok]
        rfl
      refine ⟨cutL eightD none (some (n : Int)), .ow (.list (cutL eightD none (some (n : Int)))), B2, ?_, rfl, ok2, ?_, fun d hd => ?_⟩
      · rw [seq_rt (by rw [if_t c]; exact ret_ok sl)]
      · rw [cutL_to, List.length_take]
        show min (min n 8) 8 = n
        omega
      · rw [cutL_to] at hd
        exact eight_kl d (List.mem_of_mem_take hd)
    · have cF1 : tBool (eBin gEq (eVar 4) (eC (.int 1))) ρ B2 = .ok (decide (way = 1)) B2 := c0 1
      rw [decide_eq_false w1] at cF1
      rw [seq_nx (by rw [if_f cF1]; rfl)]
      obtain ⟨r, B3, t3, ok3, hr⟩ := eTake ok2 (ρ := ρ) (j := 0) v0 3 (by decide) (by decide)
      obtain ⟨stem, hs, as, ls⟩ := stem_ixL r hr
      have s3 : sSetS 3 (eSl (eC (.str "xq")) oNone (oSome (eCall 2 m_L_take (aCons (eVar 0) (aCons (eC (.int 3)) aNil))))) ρ B2 = .ok (.nx (ρ.set 3 (some (.sh (.str stem))))) B3 := by
        exact setS_ok (e := .sh (.str stem)) (sl_ok (d := .str "xq") (e := .sh (.str "xq")) rfl rfl (oSome_ok t3) rfl hs) (by rw [← hρ]; simp)
      rw [seq_nx s3, ← hρ]
      obtain ⟨xs, B4, ec, ok4, lc, pc⟩ := compL_all (f := fName 6) (me := eBin gAdd (eVar 3) (eBin gIx (eC (.str "abcdefghijklmnopqrstuvwxyz")) (eBin gMod (eCB gInt (aCons (eBin gAdd (eBin gMul (eC (.int 2)) (eVar 5)) (eBin gMul (eC (.int 3)) (eVar 6))) aNil)) (eC (.int 26))))) Kl (rangeD 0 (n : Int))
        [some .bg, some (.sh (.int (n : Int))), some (.sh (.list menuD)), some (.sh (.str stem)), some (.sh (.int (way : Int))), some (.sh (.int (turn : Int))), none] [] B3 ok3 (by simp [rangeD]; exact sz (by omega)) (fun d hd B ok => elem_okL n way turn as ls d hd B ok)
      simp only [List.nil_append] at ec
      have lx : xs.length = n := by rw [lc]; simp [rangeD]
      obtain ⟨es, he, hl, hk⟩ := sorted_strsL pc (sz (by omega))
      refine ⟨es, .ow (.list es), B4, ?_, rfl, ok4, by omega, hk⟩
      have cm : eComp [6] (iRange (aCons (eVar 1) aNil)) (fName 6) tYesM (eBin gAdd (eVar 3) (eBin gIx (eC (.str "abcdefghijklmnopqrstuvwxyz")) (eBin gMod (eCB gInt (aCons (eBin gAdd (eBin gMul (eC (.int 2)) (eVar 5)) (eBin gMul (eC (.int 3)) (eVar 6))) aNil)) (eC (.int 26)))))
          ([some EV.bg, some (EV.sh (.int (n : Int))), some (EV.sh (.list menuD)), none, some (EV.sh (.int (way : Int))), some (EV.sh (.int (turn : Int))), none].set 3 (some (.sh (.str stem)))) B3 = .ok (.ow (.list xs)) B4 := by
        exact comp_ok (iRange_ok (n := n) (show eVar 1 _ B3 = .ok (.sh (.int (n : Int))) B3 from rfl) (by omega)) rfl ec
      rw [ret_ok (cb1_ok cm rfl he)]

section
variable {B : Bag} {Q : EV → Bag → Prop}
theorem kinds_satL (ok : BagOk B) {n : Nat} (hn : n ≤ 8) (q : ∀ ks e B', e.share = .sh (.list ks) → BagOk B' → ks.length = n → (∀ d ∈ ks, Kl d) → Q e B') : Sat (m_L_kinds [.bg, .sh (.int (n : Int))] B) Q := by
  obtain ⟨ks, e, B', h, h1, h2, h3, h4⟩ := kinds_ylL ok n hn
  exact sat_eq h (q ks e B' h1 h2 h3 h4)
end
end Mr
namespace Mr
open PySem PySem.Spec PyProof.Rows L2
variable [Wd]
def m_is_integer : FM := mfn 1 (sRet (eAnd (eUn (gIsi "int") (eVar 0)) (eNot (eUn (gIsi "bool") (eVar 0)))))

def m_is_number : FM := mfn 2 (sRet (eAnd (eCall 1 m_is_integer (aCons (eVar 1) aNil)) (eBin gGe (eVar 1) (eVar 0))))

def m_is_kind : FM := mfn 2 (sRet (eAnd (eUn (gIsi "str") (eVar 0)) (eAnd (eChain gLt gLe (eC (.int 0)) (eCB gLen (aCons (eVar 0) aNil)) (eC (.int 8))) (eCB gAll (aCons (eComp [1] (iVal (eVar 0)) (fName 1) tYesM (eBin gIn (eVar 1) (eC (.str "abcdefghijklmnopqrstuvwxyz")))) aNil)))))

def m_is_cart_1 : SM := (sRet (eAnd (eCall 1 m_is_kind (aCons (eBin gIx (eVar 0) (eC (.int 0))) aNil)) (eAnd (eCall 1 m_is_kind (aCons (eBin gIx (eVar 0) (eC (.int 1))) aNil)) (eOr (eNot (eBin gIx (eVar 0) (eC (.int 2)))) (eBin gLe (eBin gIx (eVar 0) (eC (.int 0))) (eBin gIx (eVar 0) (eC (.int 1))))))))
def m_is_cart : FM := mfn 1 (sSeq (sIf (tOrM (tNotM (tVal (eUn (gIsi "tuple") (eVar 0)))) (tOrM (tBool (eBin gNe (eCB gLen (aCons (eVar 0) aNil)) (eC (.int 3)))) (tNotM (tVal (eUn (gIsi "bool") (eBin gIx (eVar 0) (eC (.int 2))))))))
  (sRet (eC (.bool false))) sSkip)
  m_is_cart_1)

def m_is_step_1 : SM := (sRet (eOr (eNot (eBin gIx (eVar 0) (eC (.int 1)))) (eAnd (eBin gIx (eBin gIx (eVar 0) (eC (.int 0))) (eC (.int 2))) (eBin gNe (eBin gIx (eBin gIx (eVar 0) (eC (.int 0))) (eC (.int 0))) (eBin gIx (eBin gIx (eVar 0) (eC (.int 0))) (eC (.int 1)))))))
def m_is_step : FM := mfn 1 (sSeq (sIf (tOrM (tNotM (tVal (eUn (gIsi "tuple") (eVar 0)))) (tOrM (tBool (eBin gNe (eCB gLen (aCons (eVar 0) aNil)) (eC (.int 2)))) (tOrM (tNotM (tVal (eCall 1 m_is_cart (aCons (eBin gIx (eVar 0) (eC (.int 0))) aNil)))) (tNotM (tVal (eUn (gIsi "bool") (eBin gIx (eVar 0) (eC (.int 1)))))))))
  (sRet (eC (.bool false))) sSkip)
  m_is_step_1)

def m_begin_of : FM := mfn 5 (sSeq (sUnp (fTup 2 (fCons (fTup 3 (fCons (fName 2) (fCons (fName 3) (fCons (fName 4) fNil)))) (fCons (fName 1) fNil))) (eVar 0))
  (sRet (eIf (tVal (eVar 1)) (eVar 3) (eVar 2))))

def m_end_of : FM := mfn 5 (sSeq (sUnp (fTup 2 (fCons (fTup 3 (fCons (fName 2) (fCons (fName 3) (fCons (fName 4) fNil)))) (fCons (fName 1) fNil))) (eVar 0))
  (sRet (eIf (tVal (eVar 1)) (eVar 2) (eVar 3))))

def m_couple : FM := mfn 2 (sRet (eBin gEq (eCall 1 m_end_of (aCons (eVar 0) aNil)) (eCall 1 m_begin_of (aCons (eVar 1) aNil))))

def m_is_row_1 : SM := (sRet (eCB gAll (aCons (eComp [1, 2] (iZipM (aCons (eVar 0) (aCons (eSl (eVar 0) (oSome (eC (.int 1))) oNone) aNil))) (fTup 2 (fCons (fName 1) (fCons (fName 2) fNil))) tYesM (eCall 2 m_couple (aCons (eVar 1) (aCons (eVar 2) aNil)))) aNil)))
def m_is_row : FM := mfn 3 (sSeq (sIf (tOrM (tNotM (tVal (eUn (gIsi "list") (eVar 0)))) (tOrM (tBool (eBin gEqN (eVar 0) (eLst aNil))) (tNotM (tVal (eCB gAll (aCons (eComp [1] (iVal (eVar 0)) (fName 1) tYesM (eCall 1 m_is_step (aCons (eVar 1) aNil))) aNil))))))
  (sRet (eC (.bool false))) sSkip)
  m_is_row_1)

def m_row_ends : FM := mfn 1 (sRet (eTup (aCons (eCall 1 m_begin_of (aCons (eBin gIx (eVar 0) (eC (.int 0))) aNil)) (aCons (eCall 1 m_end_of (aCons (eBin gIx (eVar 0) (eUn gNeg (eC (.int 1)))) aNil)) aNil))))

def m_carts_in_1 : SM := (sDPut 1 (eVar 2) (eBin gAdd (eDGetV 1 (eVar 2) (eC (.int 0))) (eC (.int 1))))
def m_carts_in_2 : SM := (sSeq (sFor (iVal (eCB gSorted (aCons (eComp [3] (iVal (eVar 0)) (fName 3) tYesM (eBin gIx (eVar 3) (eC (.int 0)))) aNil))) (fName 2)
  m_carts_in_1)
  (sRetO 1))
def m_carts_in : FM := mfn 4 (sSeq (sSet 1 eDN0)
  m_carts_in_2)

def m_is_part_1 : SM := (sRet (eOr (eBin gEq (eBin gIx (eVar 0) (eC (.int 0))) (eC (.int 1))) (eBin gEq (eVar 1) (eVar 2))))
def m_is_part_2 : SM := (sSeq (sUnp (fTup 2 (fCons (fName 1) (fCons (fName 2) fNil))) (eCall 1 m_row_ends (aCons (eBin gIx (eVar 0) (eC (.int 1))) aNil)))
  m_is_part_1)
def m_is_part : FM := mfn 3 (sSeq (sIf (tOrM (tNotM (tVal (eUn (gIsi "tuple") (eVar 0)))) (tOrM (tBool (eBin gNe (eCB gLen (aCons (eVar 0) aNil)) (eC (.int 2)))) (tOrM (tNotM (tVal (eCall 2 m_is_number (aCons (eC (.int 1)) (aCons (eBin gIx (eVar 0) (eC (.int 0))) aNil))))) (tNotM (tVal (eCall 1 m_is_row (aCons (eBin gIx (eVar 0) (eC (.int 1))) aNil)))))))
  (sRet (eC (.bool false))) sSkip)
  m_is_part_2)

def m_is_train_1 : SM := (sRet (eCB gAll (aCons (eComp [1, 2] (iZipM (aCons (eVar 0) (aCons (eSl (eVar 0) (oSome (eC (.int 1))) oNone) aNil))) (fTup 2 (fCons (fName 1) (fCons (fName 2) fNil))) tYesM (eBin gEq (eBin gIx (eCall 1 m_row_ends (aCons (eBin gIx (eVar 1) (eC (.int 1))) aNil)) (eC (.int 1))) (eBin gIx (eCall 1 m_row_ends (aCons (eBin gIx (eVar 2) (eC (.int 1))) aNil)) (eC (.int 0))))) aNil)))
def m_is_train : FM := mfn 3 (sSeq (sIf (tOrM (tNotM (tVal (eUn (gIsi "list") (eVar 0)))) (tOrM (tBool (eBin gEqN (eVar 0) (eLst aNil))) (tNotM (tVal (eCB gAll (aCons (eComp [1] (iVal (eVar 0)) (fName 1) tYesM (eCall 1 m_is_part (aCons (eVar 1) aNil))) aNil))))))
  (sRet (eC (.bool false))) sSkip)
  m_is_train_1)

def m_train_ends : FM := mfn 1 (sRet (eTup (aCons (eBin gIx (eCall 1 m_row_ends (aCons (eBin gIx (eBin gIx (eVar 0) (eC (.int 0))) (eC (.int 1))) aNil)) (eC (.int 0))) (aCons (eBin gIx (eCall 1 m_row_ends (aCons (eBin gIx (eBin gIx (eVar 0) (eUn gNeg (eC (.int 1)))) (eC (.int 1))) aNil)) (eC (.int 1))) aNil))))

def m_carts_of_1 : SM := (sDPut 1 (eVar 4) (eBin gAdd (eDGetV 1 (eVar 4) (eC (.int 0))) (eBin gMul (eVar 2) (eVar 5))))
def m_carts_of_2 : SM := (sFor (iItemsD (eCall 1 m_carts_in (aCons (eVar 3) aNil))) (fTup 2 (fCons (fName 4) (fCons (fName 5) fNil)))
  m_carts_of_1)
def m_carts_of_3 : SM := (sFrz [1] (sRet (eDComp [4] (iVal (eCB gSortedD (aCons (eVar 1) aNil))) (fName 4) tYesM (eVar 4) (eDIxV 1 (eVar 4)))))
def m_carts_of_4 : SM := (sSeq (sFor (iVal (eVar 0)) (fTup 2 (fCons (fName 2) (fCons (fName 3) fNil)))
  m_carts_of_2)
  m_carts_of_3)
def m_carts_of : FM := mfn 6 (sSeq (sSet 1 eDN0)
  m_carts_of_4)

def m_length : FM := mfn 3 (sRet (eCB gSum (aCons (eComp [1, 2] (iVal (eVar 0)) (fTup 2 (fCons (fName 1) (fCons (fName 2) fNil))) tYesM (eBin gMul (eVar 1) (eCB gLen (aCons (eVar 2) aNil)))) aNil)))

def m_step_at_1 : SM := (sSeq (sIf (tBool (eBin gLt (eVar 2) (eBin gMul (eVar 3) (eCB gLen (aCons (eVar 4) aNil)))))
  (sRet (eBin gIx (eVar 4) (eBin gMod (eVar 2) (eCB gLen (aCons (eVar 4) aNil))))) sSkip)
  (sAug 2 (fun i j => i - j) (eBin gMul (eVar 3) (eCB gLen (aCons (eVar 4) aNil)))))
def m_step_at : FM := mfn 5 (sSeq (sIf (tVal (eCall 2 m_is_number (aCons (eC (.int 0)) (aCons (eVar 1) aNil))))
  (sSeq (sSetS 2 (eVar 1))
  (sFor (iVal (eVar 0)) (fTup 2 (fCons (fName 3) (fCons (fName 4) fNil)))
  m_step_at_1)) sSkip)
  (fun _ _ => .bad))

def m_stretch_1 : SM := (sRet (eComp [3] (iRange (aCons (eVar 2) aNil)) (fName 3) tYesM (eCall 2 m_step_at (aCons (eVar 0) (aCons (eBin gAdd (eVar 1) (eVar 3)) aNil)))))
def m_stretch : FM := mfn 4 (sSeq (sIf (tOrM (tNotM (tVal (eCall 2 m_is_number (aCons (eC (.int 0)) (aCons (eVar 1) aNil))))) (tBool (eBin gGt (eBin gAdd (eVar 1) (eVar 2)) (eCall 1 m_length (aCons (eVar 0) aNil)))))
  (fun _ _ => .bad) sSkip)
  m_stretch_1)

def m_copied : FM := mfn 3 (sRet (eComp [1, 2] (iVal (eVar 0)) (fTup 2 (fCons (fName 1) (fCons (fName 2) fNil))) tYesM (eTup (aCons (eVar 1) (aCons (eCB gList (aCons (eVar 2) aNil)) aNil)))))

def m_joined_1 : SM := (sRet (eBin gAdd (eCall 1 m_copied (aCons (eVar 0) aNil)) (eCall 1 m_copied (aCons (eVar 1) aNil))))
def m_joined : FM := mfn 2 (sSeq (sIf (tBool (eBin gNe (eBin gIx (eCall 1 m_train_ends (aCons (eVar 0) aNil)) (eC (.int 1))) (eBin gIx (eCall 1 m_train_ends (aCons (eVar 1) aNil)) (eC (.int 0)))))
  (fun _ _ => .bad) sSkip)
  m_joined_1)

def m_L_number_1 : SM := (sRet (eBin gAdd (eBin gIx (eLst (aCons (eBin gPow (eC (.int 10)) (eC (.int 3))) (aCons (eBin gPow (eC (.int 10)) (eC (.int 9))) (aCons (eBin gPow (eC (.int 10)) (eC (.int 17))) (aCons (eBin gPow (eC (.int 10)) (eC (.int 29))) aNil))))) (eCall 2 m_L_take (aCons (eVar 0) (aCons (eC (.int 4)) aNil)))) (eCall 2 m_L_take (aCons (eVar 0) (aCons (eC (.int 7)) aNil)))))
def m_L_number_2 : SM := (sSeq (sIf (tBool (eBin gLt (eVar 1) (eC (.int 6))))
  (sRet (eBin gAdd (eC (.int 1)) (eCall 2 m_L_take (aCons (eVar 0) (aCons (eBin gIx (eLst (aCons (eC (.int 1)) (aCons (eC (.int 2)) (aCons (eC (.int 3)) (aCons (eC (.int 4)) (aCons (eC (.int 6)) (aCons (eC (.int 12)) aNil))))))) (eVar 1)) aNil))))) sSkip)
  m_L_number_1)
def m_L_number : FM := mfn 2 (sSeq (sSetS 1 (eCall 2 m_L_take (aCons (eVar 0) (aCons (eC (.int 8)) aNil))))
  m_L_number_2)

def m_L_step_on_1 : SM := (sRet (eTup (aCons (eTup (aCons (eCB gMin (aCons (eVar 1) (aCons (eVar 2) aNil))) (aCons (eCB gMax (aCons (eVar 1) (aCons (eVar 2) aNil))) (aCons (eC (.bool true)) aNil)))) (aCons (eBin gLt (eVar 2) (eVar 1)) aNil))))
def m_L_step_on : FM := mfn 3 (sSeq (sIf (tBool (eBin gEq (eCall 2 m_L_take (aCons (eVar 0) (aCons (eC (.int 2)) aNil))) (eC (.int 0))))
  (sRet (eTup (aCons (eTup (aCons (eVar 1) (aCons (eVar 2) (aCons (eC (.bool false)) aNil)))) (aCons (eC (.bool false)) aNil)))) sSkip)
  m_L_step_on_1)

def m_L_row_from_1 : SM := (sSeq (sApp 4 (eCall 3 m_L_step_on (aCons (eVar 0) (aCons (eVar 2) (aCons (eVar 6) aNil)))))
  (sSetS 2 (eVar 6)))
def m_L_row_from_2 : SM := (sSeq (sSetS 6 (eCall 2 m_L_one (aCons (eVar 0) (aCons (eVar 1) aNil))))
  m_L_row_from_1)
def m_L_row_from_3 : SM := (sSeq (sFor (iRange (aCons (eBin gAdd (eC (.int 1)) (eCall 2 m_L_take (aCons (eVar 0) (aCons (eVar 3) aNil)))) aNil)) (fName 5)
  m_L_row_from_2)
  (sRetO 4))
def m_L_row_from : FM := mfn 7 (sSeq (sSet 4 (eLst aNil))
  m_L_row_from_3)

def m_L_round_1 : SM := (sSeq (sIf (tBool (eBin gNe (eCall 1 m_L_end (aCons (eIxV 4 (eUn gNeg (eC (.int 1)))) aNil)) (eVar 2)))
  (sApp 4 (eCall 3 m_L_step_on (aCons (eVar 0) (aCons (eCall 1 m_L_end (aCons (eIxV 4 (eUn gNeg (eC (.int 1)))) aNil)) (aCons (eVar 2) aNil))))) sSkip)
  (sRetO 4))
def m_L_round : FM := mfn 5 (sSeq (sSet 4 (eCall 4 m_L_row_from (aCons (eVar 0) (aCons (eVar 1) (aCons (eVar 2) (aCons (eVar 3) aNil))))))
  m_L_round_1)

def m_L_train_1 : SM := (sSetS 4 (eCall 1 m_L_end (aCons (eBin gIx (eBin gIx (eIxV 5 (eUn gNeg (eC (.int 1)))) (eC (.int 1))) (eUn gNeg (eC (.int 1)))) aNil)))
def m_L_train_2 : SM := (sIf (tBool (eBin gEq (eCall 2 m_L_take (aCons (eVar 0) (aCons (eC (.int 2)) aNil))) (eC (.int 0))))
  (sApp 5 (eTup (aCons (eCall 1 m_L_number (aCons (eVar 0) aNil)) (aCons (eCall 4 m_L_round (aCons (eVar 0) (aCons (eVar 1) (aCons (eVar 4) (aCons (eC (.int 3)) aNil))))) aNil)))) (sSeq (sApp 5 (eTup (aCons (eC (.int 1)) (aCons (eCall 4 m_L_row_from (aCons (eVar 0) (aCons (eVar 1) (aCons (eVar 4) (aCons (eC (.int 4)) aNil))))) aNil))))
  m_L_train_1))
def m_L_train_3 : SM := (sSeq (sFor (iRange (aCons (eBin gAdd (eC (.int 1)) (eCall 2 m_L_take (aCons (eVar 0) (aCons (eVar 2) aNil)))) aNil)) (fName 3)
  m_L_train_2)
  (sRetO 5))
def m_L_train : FM := mfn 6 (sSeq (sFrzA [4] (sPar2 4 5 (eCall 2 m_L_one (aCons (eVar 0) (aCons (eVar 1) aNil))) (eLst aNil)))
  m_L_train_3)

def m_L_short_train : FM := mfn 5 (sRet (eComp [3, 4] (iVal (eCall 3 m_L_train (aCons (eVar 0) (aCons (eVar 1) (aCons (eVar 2) aNil))))) (fTup 2 (fCons (fName 3) (fCons (fName 4) fNil))) tYesM (eTup (aCons (eIf (tBool (eBin gLt (eVar 3) (eC (.int 13)))) (eVar 3) (eC (.int 2))) (aCons (eVar 4) aNil)))))

end Mr
namespace Mr
open PySem PySem.Spec PyProof.Rows L2
variable [Wd]
/-! int of a truth -/
def gIntB : List PyData → Option EV
  | [.int i] => some (.sh (.int i))
  | [.bool k] => some (.sh (.int (if k then 1 else 0)))
  | _ => none
section
variable {X : Cx}
theorem cr_intBM : CallR X (.type "int") (rDA gIntB) := by
  intro pins s σ H vs us Q I r ⟨H0, ds, e, l, ra, hg, q⟩
  unfold gIntB at hg
  split at hg
  · cases hg
    obtain ⟨v, rfl, rv⟩ := ra.one
    obtain rfl := rv.int_inv
    exact call_int1 pins s σ H _ us Q I r (.inl ⟨_, rfl, q _ _ nr_int⟩)
  · cases hg
    obtain ⟨v, rfl, rv⟩ := ra.one
    obtain rfl := rv.bl_inv
    exact call_int1 pins s σ H _ us Q I r (.inr ⟨_, rfl, q _ _ nr_int⟩)
  · cases hg
end
end Mr
namespace Mr
open PySem PySem.Spec PyProof.Rows L2
variable [Wd]
/-! min, max of a pair of texts; != of dicts; xs[::-1], pair[::-1]; a try in which nothing is raised -/
theorem one_keep {s : Shared} {h' : Heap} {o1 : Obj} (hk : ∀ b o, b ∉ [s.heap.objs.size] → (s.heap.push o1).get? b = some o → h'.get? b = some o) : ∀ c o, s.heap.get? c = some o → h'.get? c = some o := fun c o e => by
  refine hk c o (fun hm => ?_) (Heap.get?_push_of_some _ e)
  have hlt := Heap.lt_size e
  simp only [List.mem_singleton] at hm
  rw [hm] at hlt
  exact Nat.lt_irrefl _ hlt
theorem min_tup_strs {prog : Program} {w : World} {A : Around} {E : Value → Shared → Prop} {s : Shared} {x y : Str} {t u : Tok} {Q : Value → Shared → Prop} {ta : Addr} (hT : s.heap.IsTuple ta #[.str x t, .str y u]) (hh : A.handled = none) (hu : A.units + 64 < cLine)
    (h : ∀ h' tk, (∀ c o, s.heap.get? c = some o → h'.get? c = some o) → Q (if y.cps.toList < x.cps.toList then .str y u else .str x t) { s with heap := h', toks := tk }) :
    wpAny (model prog w) A (call (.builtin "min") [.ref ta]) Q E s := by
  have hta : ta < s.heap.objs.size := by obtain ⟨o, ho, _⟩ := hT; exact Heap.lt_size ho
  have hcmp : CmpOf prog w A.in1 .Lt (fun i v => (#[Value.str x t, Value.str y u])[i]? = some v) (fun i j => decide ((strAt x y i).cps.toList < (strAt x y j).cps.toList)) := by
    intro i j vi vj s' Q' E' hi hj hq
    have sh : ∀ (n : Nat) (v : Value), (#[Value.str x t, Value.str y u])[n]? = some v → ∃ k, v = .str (strAt x y n) k := by
      intro n v hn
      match n, hn with
      | 0, hn => exact ⟨t, by simpa [strAt] using hn.symm⟩
      | 1, hn => exact ⟨u, by simpa [strAt] using hn.symm⟩
      | n + 2, hn => simp at hn
    obtain ⟨k1, rfl⟩ := sh i vi hi
    obtain ⟨k2, rfl⟩ := sh j vj hj
    exact PySem.W.rcLt_alike (.str _) (.str _) A.in1 s' _ _ [] [] (.str _ _) (.str _ _) rfl nofun (by show A.units + 1 + 0 < cLine; omega) prog w E' Q' (by rw [PySem.W.dataLt_str]; exact hq)
  refine call_min_walk (wpAny_pyIter_tuple hT ?_)
  refine ⟨_, [_, ta], [_], _, _, _, _, rfl, Walks.tuple (A := A.in1) hh _ ta (Nat.ne_of_lt hta) #[.str x t, .str y u],
    ⟨⟨_, Heap.get?_push_size _ rfl, rfl, rfl⟩, hT.push _⟩, fun c hc => ?_, by simp, hcmp, fun v h' tk hP hk => ?_⟩
  · show c < (s.heap.push _).objs.size
    rw [Heap.size_push]
    simp only [List.mem_cons, List.not_mem_nil, or_false] at hc
    rcases hc with rfl | rfl
    · exact Nat.lt_succ_self _
    · exact Nat.lt_succ_of_lt hta
  · have hv : v = if y.cps.toList < x.cps.toList then Value.str y u else Value.str x t := by
      by_cases hb : y.cps.toList < x.cps.toList
      · have e : argBest (fun i j => decide ((strAt x y i).cps.toList < (strAt x y j).cps.toList)) 1 = 1 := by simp [argBest, strAt, hb]
        have hP' : (#[Value.str x t, Value.str y u])[argBest (fun i j => decide ((strAt x y i).cps.toList < (strAt x y j).cps.toList)) 1]? = some v := hP
        rw [e] at hP'
        simpa [hb] using hP'.symm
      · have e : argBest (fun i j => decide ((strAt x y i).cps.toList < (strAt x y j).cps.toList)) 1 = 0 := by simp [argBest, strAt, hb]
        have hP' : (#[Value.str x t, Value.str y u])[argBest (fun i j => decide ((strAt x y i).cps.toList < (strAt x y j).cps.toList)) 1]? = some v := hP
        rw [e] at hP'
        simpa [hb] using hP'.symm
    rw [hv]; exact h h' tk (one_keep hk)
theorem max_tup_strs {prog : Program} {w : World} {A : Around} {E : Value → Shared → Prop} {s : Shared} {x y : Str} {t u : Tok} {Q : Value → Shared → Prop} {ta : Addr} (hT : s.heap.IsTuple ta #[.str x t, .str y u]) (hh : A.handled = none) (hu : A.units + 64 < cLine)
    (h : ∀ h' tk, (∀ c o, s.heap.get? c = some o → h'.get? c = some o) → Q (if x.cps.toList < y.cps.toList then .str y u else .str x t) { s with heap := h', toks := tk }) :
    wpAny (model prog w) A (call (.builtin "max") [.ref ta]) Q E s := by
  have hta : ta < s.heap.objs.size := by obtain ⟨o, ho, _⟩ := hT; exact Heap.lt_size ho
  have hcmp : CmpOf prog w A.in1 .Gt (fun i v => (#[Value.str x t, Value.str y u])[i]? = some v) (fun i j => decide ((strAt x y j).cps.toList < (strAt x y i).cps.toList)) := by
    intro i j vi vj s' Q' E' hi hj hq
    have sh : ∀ (n : Nat) (v : Value), (#[Value.str x t, Value.str y u])[n]? = some v → ∃ k, v = .str (strAt x y n) k := by
      intro n v hn
      match n, hn with
      | 0, hn => exact ⟨t, by simpa [strAt] using hn.symm⟩
      | 1, hn => exact ⟨u, by simpa [strAt] using hn.symm⟩
      | n + 2, hn => simp at hn
    obtain ⟨k1, rfl⟩ := sh i vi hi
    obtain ⟨k2, rfl⟩ := sh j vj hj
    exact PySem.W.rcGt_alike (.str _) (.str _) A.in1 s' _ _ [] [] (.str _ _) (.str _ _) rfl nofun (by show A.units + 1 + 0 < cLine; omega) prog w E' Q' (by rw [PySem.W.dataLt_str]; exact hq)
  refine call_max_walk (wpAny_pyIter_tuple hT ?_)
  refine ⟨_, [_, ta], [_], _, _, _, _, rfl, Walks.tuple (A := A.in1) hh _ ta (Nat.ne_of_lt hta) #[.str x t, .str y u],
    ⟨⟨_, Heap.get?_push_size _ rfl, rfl, rfl⟩, hT.push _⟩, fun c hc => ?_, by simp, hcmp, fun v h' tk hP hk => ?_⟩
  · show c < (s.heap.push _).objs.size
    rw [Heap.size_push]
    simp only [List.mem_cons, List.not_mem_nil, or_false] at hc
    rcases hc with rfl | rfl
    · exact Nat.lt_succ_self _
    · exact Nat.lt_succ_of_lt hta
  · have hv : v = if x.cps.toList < y.cps.toList then Value.str y u else Value.str x t := by
      by_cases hb : x.cps.toList < y.cps.toList
      · have e : argBest (fun i j => decide ((strAt x y j).cps.toList < (strAt x y i).cps.toList)) 1 = 1 := by simp [argBest, strAt, hb]
        have hP' : (#[Value.str x t, Value.str y u])[argBest (fun i j => decide ((strAt x y j).cps.toList < (strAt x y i).cps.toList)) 1]? = some v := hP
        rw [e] at hP'
        simpa [hb] using hP'.symm
      · have e : argBest (fun i j => decide ((strAt x y j).cps.toList < (strAt x y i).cps.toList)) 1 = 0 := by simp [argBest, strAt, hb]
        have hP' : (#[Value.str x t, Value.str y u])[argBest (fun i j => decide ((strAt x y j).cps.toList < (strAt x y i).cps.toList)) 1]? = some v := hP
        rw [e] at hP'
        simpa [hb] using hP'.symm
    rw [hv]; exact h h' tk (one_keep hk)
theorem DnAll.two' {H : Hp} {vs : List V} {d1 d2 : PyData} (h : DnAll H vs [d1, d2]) : ∃ v1 v2, vs = [v1, v2] ∧ Dn H v1 d1 ∧ Dn H v2 d2 := by
  cases h with
  | cons a b =>
    cases b with
    | cons a2 b => cases b; exact ⟨_, _, rfl, a, a2⟩
def gMinT : List PyData → Option EV
  | [.tuple [.str x, .str y]] => some (.sh (.str (minS x y)))
  | _ => none
def gMaxT : List PyData → Option EV
  | [.tuple [.str x, .str y]] => some (.sh (.str (maxS x y)))
  | _ => none
section
variable {X : Cx}
theorem cr_minTM (hc : X.calm = true) (hu : X.A.units + 64 < cLine) : CallR X (.builtin "min") (rDA gMinT) := by
  intro pins s σ H vs us Q I r ⟨H0, ds, e, l, ra, hg, q⟩
  unfold gMinT at hg
  split at hg
  · rename_i x y
    cases hg
    obtain ⟨v, rfl, rv⟩ := ra.one
    obtain ⟨a1, zs, rfl, ha, al⟩ := rv.tup_inv
    obtain ⟨v1, v2, rfl, r1, r2⟩ := al.two'
    obtain rfl := r1.str_inv
    obtain rfl := r2.str_inv
    obtain ⟨its, rvs, ht, _⟩ := I.tuple (show SqT X.K H a1 [.str x, .str y] from .inl (.inl (l _ _ ha)))
    obtain ⟨u, u2, rfl, ⟨t, rfl⟩, ⟨t2, rfl⟩⟩ := vals2 rvs
    rw [Vals.ref1 r]
    refine min_tup_strs ht (I.ok.hd hc) hu fun h' tk k => ⟨.str (minS x y), H, I.kept k, ?_, q _ _ nr_str⟩
    unfold minS
    by_cases hb : y.cps.toList < x.cps.toList
    · rw [if_pos hb, if_pos hb]; exact ⟨_, rfl⟩
    · rw [if_neg hb, if_neg hb]; exact ⟨_, rfl⟩
  · cases hg
theorem cr_maxTM (hc : X.calm = true) (hu : X.A.units + 64 < cLine) : CallR X (.builtin "max") (rDA gMaxT) := by
  intro pins s σ H vs us Q I r ⟨H0, ds, e, l, ra, hg, q⟩
  unfold gMaxT at hg
  split at hg
  · rename_i x y
    cases hg
    obtain ⟨v, rfl, rv⟩ := ra.one
    obtain ⟨a1, zs, rfl, ha, al⟩ := rv.tup_inv
    obtain ⟨v1, v2, rfl, r1, r2⟩ := al.two'
    obtain rfl := r1.str_inv
    obtain rfl := r2.str_inv
    obtain ⟨its, rvs, ht, _⟩ := I.tuple (show SqT X.K H a1 [.str x, .str y] from .inl (.inl (l _ _ ha)))
    obtain ⟨u, u2, rfl, ⟨t, rfl⟩, ⟨t2, rfl⟩⟩ := vals2 rvs
    rw [Vals.ref1 r]
    refine max_tup_strs ht (I.ok.hd hc) hu fun h' tk k => ⟨.str (maxS x y), H, I.kept k, ?_, q _ _ nr_str⟩
    unfold maxS
    by_cases hb : x.cps.toList < y.cps.toList
    · rw [if_pos hb, if_pos hb]; exact ⟨_, rfl⟩
    · rw [if_neg hb, if_neg hb]; exact ⟨_, rfl⟩
  · cases hg
end
def gNeD : PyData → PyData → Option EV
  | .dict d1, .dict d2 => if keysT d1 = true ∧ keysT d2 = true ∧ shapedD d1 = true ∧ shapedD d2 = true then some (.sh (.bool (!(d1.length == d2.length && pairsIn d1 d2)))) else none
  | _, _ => none
section
variable {prog : Program} {w : World} {K : Type} [DecidableEq K] {knd : HeapKind prog w K} {A : Around} {E : Value → Shared → Prop} {s : Shared} {a b : Addr} {xa xb : List (K × Addr × Value)}
theorem neDictN {e : K → Bool} {Q : Value → Shared → Prop} (hu : knd.room A.in1) (hc : A.units < cLine) (ha : (a == sysModules) = false) (hb : (b == sysModules) = false) (da : s.heap.DictOfH knd a xa) (db : s.heap.DictOfH knd b xb)
    (he : ∀ x ∈ xa, ∀ p, atKey xb x.1 = some p → SeqAt.EqAt A.in1 s x.2.2 p.2 (e x.1)) (h : Q (.bool (!(xa.length == xb.length && xa.all fun x => (atKey xb x.1).isSome && e x.1))) s) :
    wpAny (model prog w) A (compareOp .NotEq (.ref a) (.ref b)) Q E s := by
  refine wpAny_richCompare_same_room (op := .NotEq) da.typeIs db.typeIs PySem.F.slot_dict_ne (wpAny_call_entry PySem.F.slot_dict_ne da.typeIs PySem.F.entry_dict_ne ?_ (PySem.F.args_dict_ne_2 _ _)) hc
  show wpAny _ _ (Builtin.Dict.dictSlotArgs "__ne__" ⟨[.ref a, .ref b], []⟩ >>= _) _ _ s
  refine wpAny_bind ?_
  unfold Builtin.Dict.dictSlotArgs
  refine wpAny_bind (wpAny_notOrdered_dict da.typeIs ?_)
  show wpAny _ _ (pure (Value.ref a, Value.ref b)) _ _ s
  refine wpAny_pure ?_
  refine wpAny_bind (wpAny_isInstance (T := "dict") db.typeIs PySem.F.sub_dict_dict ?_)
  simp only [Bool.not_true, Bool.false_eq_true, if_false]
  refine wpAny_bind (wpAny_pure (wpAny_bind (wpAny_pure ?_)))
  refine wpAny_bind (samePairsN (e := e) hu ha hb da db he ?_)
  refine wpAny_pure ⟨_, rfl, (fun x => nomatch x), ?_⟩
  simpa using h
end
section
variable {X : Cx}
theorem op_neDN (hu : X.A.units + 66 < cLine) (hw : X.w = Wd.w) : OpR X (compareOp .NotEq) (rD2 gNeD) := by
  intro pins s σ H x y v u Q I rx ry ⟨H0, d1, d2, e, l, r1, r2, hg, q⟩
  unfold gNeD at hg
  split at hg
  · rename_i d1 d2
    split at hg
    · rename_i ok
      cases hg
      obtain ⟨k1, k2, s1, s2⟩ := ok
      obtain ⟨a, o, xs, rfl, ha, en⟩ := r1.dict_inv k1
      obtain ⟨b, o', xs', rfl, hb, en'⟩ := r2.dict_inv k2
      obtain rfl : v = Value.ref a := rx
      obtain rfl : u = Value.ref b := ry
      obtain ⟨hz, hsys, ys, rxy, dd⟩ := dictN_at I hw (l _ _ ha) (DnEn.mono l _ _ en)
      obtain ⟨hz', hsys', ys', rxy', dd'⟩ := dictN_at I hw (l _ _ hb) (DnEn.mono l _ _ en')
      have keys := dn_key_of en rxy
      have key_at : ∀ y ∈ ys, ∃ e ∈ d1, keyN e.1 = some y.1 := fun y hy => by
        have : some y.1 ∈ d1.map (fun e => keyN e.1) := by rw [← keys]; exact List.mem_map.mpr ⟨y, hy, rfl⟩
        obtain ⟨e, he, hk⟩ := List.mem_map.mp this
        exact ⟨e, he, hk⟩
      let ee : NestedKey → Bool := fun k => match getK d1 k, getK d2 k with
        | some u, some v => PyData.eqv u v
        | _, _ => false
      have hnd := dd.nodup
      refine neDictN (knd := nestedKind X.prog X.w) (e := ee) (show X.A.units + 1 + 8 < cLine by omega) (by omega) hsys hsys' dd dd' (fun y hy p hp => ?_) ?_
      · obtain ⟨en0, he0, hk0⟩ := key_at y hy
        obtain ⟨i, hi⟩ := List.mem_iff_getElem?.mp hy
        have hat : atKey ys y.1 = some y.2 := atKey_of_get hnd (i := i) (by rw [hi])
        rcases en_at hk0 en rxy with ⟨a1, _⟩ | ⟨p1, u1, v1, a1, a2, a3, a4⟩
        · rw [hat] at a1; cases a1
        · rw [hat] at a1; cases a1
          rcases en_at hk0 en' rxy' with ⟨b1, _⟩ | ⟨p2, u2, v2, b1, b2, b3, b4⟩
          · rw [hp] at b1; cases b1
          · rw [hp] at b1; cases b1
            have e1 : getK d1 y.1 = some u1 := by rw [← getK_of hk0]; exact a2
            have e2 : getK d2 y.1 = some u2 := by rw [← getK_of hk0]; exact b2
            have e3 : ee y.1 = PyData.eqv u1 u2 := by show (match getK d1 y.1, getK d2 y.1 with | some u, some v => PyData.eqv u v | _, _ => false) = _; rw [e1, e2]
            rw [e3]
            obtain ⟨_, R1, _⟩ := Dn.reads I u1 v1 _ (Dn.mono l _ _ a4) a3
            obtain ⟨_, R2, _⟩ := Dn.reads I u2 v2 _ (Dn.mono l _ _ b4) b3
            obtain ⟨f1, m1, rfl⟩ := getDn_mem a2
            obtain ⟨f2, m2, rfl⟩ := getDn_mem b2
            exact PySem.W.keq_at R1 R2 (List.all_eq_true.mp s1 _ m1) (List.all_eq_true.mp s2 _ m2) (show X.A.units + 1 + 64 < cLine by omega)
      · have hl1 : ys.length = d1.length := by rw [← Paired.length rxy, en.length]
        have hl2 : ys'.length = d2.length := by rw [← Paired.length rxy', en'.length]
        have hall : (ys.all fun x => (atKey ys' x.1).isSome && ee x.1) = pairsIn d1 d2 := by
          have g : ∀ (k : NestedKey) (dk : PyData), keyN dk = some k → ((atKey ys' k).isSome && ee k) = (match getDn d1 dk, getDn d2 dk with | some u, some v => PyData.eqv u v | _, _ => false) := fun k dk hk => by
            rw [getK_of hk, getK_of hk]
            show (_ && (match getK d1 k, getK d2 k with | some u, some v => PyData.eqv u v | _, _ => false)) = _
            rcases en_at hk en' rxy' with ⟨b1, b2⟩ | ⟨p2, u2, v2, b1, b2, _⟩
            · rw [getK_of hk] at b2
              rw [b1, b2]
              cases getK d1 k <;> rfl
            · rw [b1]; rfl
          unfold pairsIn
          have m1 : ys.all (fun x => (atKey ys' x.1).isSome && ee x.1) = (ys.map (fun y => some y.1)).all (fun o => match o with | some k => (atKey ys' k).isSome && ee k | none => false) := by rw [List.all_map]; rfl
          rw [m1, keys, List.all_map]
          have : ∀ l2 : List (PyData × PyData), (∀ e ∈ l2, (keyN e.1).isSome = true) → (l2.all ((fun o : Option NestedKey => match o with | some k => (atKey ys' k).isSome && ee k | none => false) ∘ fun e => keyN e.1)) = l2.all fun e => match getDn d1 e.1, getDn d2 e.1 with | some u, some v => PyData.eqv u v | _, _ => false := by
            intro l2
            induction l2 with
            | nil => intro _; rfl
            | cons e l2 ih =>
              intro hk
              obtain ⟨k, hk'⟩ := Option.isSome_iff_exists.mp (hk e List.mem_cons_self)
              rw [List.all_cons, List.all_cons, ih fun e he => hk e (List.mem_cons_of_mem _ he)]
              congr 1
              show (match keyN e.1 with | some k => (atKey ys' k).isSome && ee k | none => false) = _
              rw [hk']
              exact g k e.1 hk'
          exact this d1 fun e he => by
            have : keyN e.1 ∈ ys.map (fun y => some y.1) := by rw [keys]; exact List.mem_map.mpr ⟨e, he, rfl⟩
            obtain ⟨y, _, hy⟩ := List.mem_map.mp this
            rw [← hy]; rfl
        rw [hall, hl1, hl2]
        exact ⟨.bl _, H, I, rfl, q _ _ nr_bl⟩
    · cases hg
  · cases hg
end
/-! backwards -/
theorem DnAll.rev {H : Hp} : ∀ {vs : List V} {ds : List PyData}, DnAll H vs ds → DnAll H vs.reverse ds.reverse
  | [], _, h => by cases h; exact .nil
  | v :: vs, _, h => by
    cases h with
    | cons a b => rw [List.reverse_cons, List.reverse_cons]; exact b.rev.append (.cons a .nil)
def gRevL : PyData → Option EV
  | .list xs => some (.ow (.list xs.reverse))
  | _ => none
def gRevT : PyData → Option EV
  | .tuple [a, b] => some (.sh (.tuple [b, a]))
  | _ => none
section
variable {X : Cx} {m : EM} {e : Expr}
theorem me_revL {k : Nat} {p1 p2 p3 pos : Pos} (h : ME X e m) : ME X (.Subscript e (.Slice none none (some (.UnaryOp .USub (.Constant (.int 1) k p1) p2)) p3) pos) (eUn gRevL m) := PE.weak (pe_revL h) fun σ H Q ⟨b, He, H0e, ρ, B, H0, s, q⟩ => by
  unfold eUn at q
  cases h1 : m ρ B with
  | bad => rw [h1] at q; exact q.elim
  | ok e1 B1 =>
    rw [h1, bind_ok] at q
    refine rdE_at s h1 fun v H01 H1 g1 s1 r1 => ?_
    cases hd1 : e1.data with
    | none => rw [hd1] at q; exact q.elim
    | some d1 =>
      obtain ⟨H02, g2, s2, D1⟩ := s.data g1 s1 r1 hd1
      rw [hd1] at q
      cases d1 with
      | list xs =>
        obtain ⟨a1, zs, rfl, ha', al⟩ := D1.lst_inv
        refine ⟨a1, zs, rfl, .inl (.inl (s2.hr.le _ _ ha')), fun p hp => ?_⟩
        obtain ⟨H05, g5, s5, r5⟩ := NewRes.ok (z := .ref p) (e := .ow (.list xs.reverse)) s2 ⟨p, _, _, rfl, rfl, hp, rfl, al.rev⟩
        exact q _ H05 _ (g2.trans g5) s5 (r5.back g2)
      | _ => exact q.elim
end
section
variable {prog : Program} {w : World} {A : Around} {E : Value → Shared → Prop} {s : Shared}
theorem sliceApplied_rev2 {sl : Addr} {u : Tok} {Q : Int × Int × Nat → Shared → Prop} (hs : s.heap.IsSliceOf sl .none .none (.int (-1) u)) (h : Q (1, -1, 2) s) :
    wpAny (model prog w) A (Builtin.Slice.sliceApplied (.ref sl) (pure (2 : Int))) Q E s := by
  obtain ⟨os, hos, hcs, hds⟩ := id hs
  unfold Builtin.Slice.sliceApplied Builtin.Slice.sliceFields
  refine wpAny_bind (wpAny_bind (wpAny_field hos hds (x := .none) rfl (wpAny_bind (wpAny_field hos hds (x := .none) rfl (wpAny_bind (wpAny_field hos hds (x := .int (-1) u) rfl (wpAny_pure ?_)))))))
  refine wpAny_bind (slicePart_int ?_)
  show wpAny _ _ (if ((-1 : Int) == 0) = true then _ else _) _ _ s
  rw [if_neg (by decide)]
  refine wpAny_bind (slicePart_none (wpAny_bind (slicePart_none (wpAny_bind (wpAny_pure ?_)))))
  show wpAny _ _ (match Builtin.Slice.sliceAdjust none none (-1) (2 : Int) with | (lo, hi) => pure (lo, (-1 : Int), Builtin.Slice.slicePlaces lo hi (-1))) _ _ s
  rw [show Builtin.Slice.sliceAdjust none none (-1) (2 : Int) = (1, -1) by decide]
  show wpAny _ _ (pure ((1 : Int), (-1 : Int), Builtin.Slice.slicePlaces (1 : Int) (-1 : Int) (-1))) _ _ s
  rw [show Builtin.Slice.slicePlaces (1 : Int) (-1 : Int) (-1) = 2 by decide]
  exact wpAny_pure h
theorem getItem_pair_rev {t sl : Addr} {a b : Value} {u : Tok} {Q : Value → Shared → Prop} (ht : IsTup s.heap t #[a, b]) (hs : s.heap.IsSliceOf sl .none .none (.int (-1) u))
    (h : Q (.ref s.heap.objs.size) { s with heap := s.heap.push { cls := .type "tuple", data := .seq #[b, a] } }) : wpAny (model prog w) A (getItem (.ref t) (.ref sl)) Q E s := by
  obtain ⟨os, hos, hcs, hds⟩ := id hs
  have hTs : s.TypeIs (.ref sl) "slice" := ⟨os, hos, hcs⟩
  have hz : sizeOk (.seq #[b, a]) := by show (2 : Nat) ≤ sizeLine; decide
  unfold getItem
  try with_reducible refine wpAny_holding ?_
  first | refine wpAny_bind (wpAny_pure ?_) | skip
  refine wpAny_bind (wpAny_sequenceKey ht.typeIs (by decide) ?_)
  refine wpAny_bind (wpAny_callSpecial?_slot (name := Str.ofString "__getitem__") ht.typeIs slot_tuple_getitem
    (wpAny_call_entry slot_tuple_getitem ht.typeIs entry_tuple_getitem ?_ (args_tuple_getitem _ _)))
  show wpAny _ _ (Builtin.Tuple.tupleItemsOf (.ref t) >>= _) _ _ s
  refine wpAny_bind (tupleItemsOf_ ht ?_)
  refine wpAny_bind (wpAny_typeOf hTs ?_)
  rw [if_pos (by decide)]
  refine wpAny_bind (sliceApplied_rev2 hs ?_)
  show wpAny _ _ (if ((1 : Int) == 0 && (-1 : Int) == 1 && (2 : Nat) == 2) = true then _ else _) _ _ s
  rw [if_neg (by decide)]
  rw [show ((List.range 2).filterMap fun (k : Nat) => (#[a, b] : Array Value)[((1 : Int) + (k : Int) * (-1)).toNat]?).toArray = #[b, a] from rfl]
  first
    | exact wpAny_bind (m := Builtin.Tuple.tupleExact _) (wpAny_newObj_type (wpAny_pure ⟨_, rfl, wpAny_pure h⟩) hz)
    | exact wpAny_bind (m := Builtin.Tuple.tupleExact _) (wpAny_newObj_type (wpAny_bind (wpAny_pure (wpAny_pure ⟨_, rfl, wpAny_pure h⟩))) hz)
    | exact wpAny_bind (wpAny_bind (m := Builtin.Tuple.tupleExact _) (wpAny_newObj_type (wpAny_pure (wpAny_pure ⟨_, rfl, wpAny_pure h⟩)) hz))
    | exact wpAny_bind (wpAny_bind (m := Builtin.Tuple.tupleExact _) (wpAny_newObj_type (wpAny_pure ⟨_, rfl, wpAny_pure h⟩) hz))
end
section
variable {X : Cx} {m : EM} {e : Expr}
def tRevT (K : PySem.W.Frag) (te : TE) : TE := fun σ H Q => te σ H fun x H1 => ∃ a v1 v2, x = .ref a ∧ SqT K H1 a [v1, v2] ∧ ∀ p, H1 p = none → Q (.ref p) (upd H1 p (.tup [v2, v1]))
theorem pe_revT {te : TE} {k : Nat} {p1 p2 p3 pos : Pos} (he : PE X e te) : PE X (.Subscript e (.Slice none none (some (.UnaryOp .USub (.Constant (.int 1) k p1) p2)) p3) pos) (tRevT X.K te) := by
  refine ⟨fun pins s σ H Q I h => ?_⟩
  refine Subscript_ (thn (he.run pins s σ H _ I h) fun v s1 ⟨x, H1, I1, r1, q1⟩ => ?_)
  obtain ⟨a, v1, v2, ex, hx, q⟩ := q1
  subst ex
  cases r1
  have hst : PO X (some (.UnaryOp .USub (.Constant (.int 1) k p1) p2)) (tPart (tUn (rU fun i => .int (-i)) (tC (.int 1)))) := po_some (pe_un un_neg pe_int)
  refine wpAny_Slice (thn (po_none.run pins s1 σ H1 (fun o H2 => o = none ∧ H2 = H1) I1 ⟨rfl, rfl⟩) fun vl s2 ⟨l, H2, I2, pl, el, e2⟩ => ?_)
  subst el e2
  refine thn (po_none.run pins s2 σ H2 (fun o H3 => o = none ∧ H3 = H2) I2 ⟨rfl, rfl⟩) fun vu s3 ⟨u, H3, I3, pu, eu, e3⟩ => ?_
  subst eu e3
  refine thn (hst.run pins s3 σ H3 (fun o H4 => o = some (-1) ∧ H4 = H3) I3 ⟨1, rfl, -1, rfl, rfl, rfl⟩) fun vs s4 ⟨o, H4, I4, ps, eo, e4⟩ => ?_
  subst eo e4
  cases pl
  cases pu
  cases ps
  rename_i tk hxx
  have I5 : Inv X pins σ H4 { s4 with heap := s4.heap.push { cls := .type "slice", data := .fields #[.none, .none, .int (-1) tk] } } := I4.kept (t' := s4.toks) fun b ob q => Heap.get?_push_of_some _ q
  obtain ⟨its, r, ht, hz⟩ := I5.tuple hx
  obtain ⟨u1, u2, rfl, r1, r2⟩ := vals2 r
  show wpAny (model X.prog X.w) X.A (subscriptTail e (.Slice none none (some (.UnaryOp .USub (.Constant (.int 1) k p1) p2)) p3) (.ref a) (.ref s4.heap.objs.size)) (EP X pins σ Q) X.xe { s4 with heap := s4.heap.push { cls := .type "slice", data := .fields #[.none, .none, .int (-1) tk] } }
  refine tail_any (ops := [.ref a, .ref s4.heap.objs.size]) ht.typeIs (slot_tuple_getitem.lookup) ?_ (by with_unfolding_all rfl)
  refine getItem_pair_rev ht (Heap.IsSliceOf.new _ .none .none (.int (-1) tk)) ?_
  refine ⟨.ref _, _, I5.laid (t' := s4.toks) (o := .tup [v2, v1]) (fun b ob q => Heap.get?_push_of_some _ q) (Nat.le_refl _) ?_, rfl, q _ (I5.hok.fresh (Nat.le_refl _))⟩
  exact ⟨by show (2 : Nat) ≤ sizeLine; decide, _, .cons r2 (.cons r1 .nil), _, Heap.get?_push_size _ rfl, rfl, 0, rfl⟩
theorem me_revT {k : Nat} {p1 p2 p3 pos : Pos} (h : ME X e m) : ME X (.Subscript e (.Slice none none (some (.UnaryOp .USub (.Constant (.int 1) k p1) p2)) p3) pos) (eUn gRevT m) := PE.weak (pe_revT h) fun σ H Q ⟨b, He, H0e, ρ, B, H0, s, q⟩ => by
  unfold eUn at q
  cases h1 : m ρ B with
  | bad => rw [h1] at q; exact q.elim
  | ok e1 B1 =>
    rw [h1, bind_ok] at q
    refine rdE_at s h1 fun v H01 H1 g1 s1 r1 => ?_
    cases hd1 : e1.data with
    | none => rw [hd1] at q; exact q.elim
    | some d1 =>
      obtain ⟨H02, g2, s2, D1⟩ := s.data g1 s1 r1 hd1
      rw [hd1, Option.bind_some] at q
      cases d1 with
      | tuple xs =>
        match xs, D1, q with
        | [a2, b2], D1, q =>
          obtain ⟨a1, zs, rfl, ha', al⟩ := D1.tup_inv
          obtain ⟨v1, v2, rfl, q1, q2⟩ := al.two'
          refine ⟨a1, v1, v2, rfl, .inl (.inl (s2.hr.le _ _ ha')), fun p hp => ?_⟩
          obtain ⟨H05, g5, s5, r5⟩ := NewRes.ok (z := .ref p) (e := .sh (.tuple [b2, a2])) s2 (.inr ⟨p, _, _, rfl, rfl, hp, rfl, .cons q2 (.cons q1 .nil)⟩)
          exact q _ H05 _ (g2.trans g5) s5 (r5.back g2)
        | [], _, q => exact q.elim
        | [_], _, q => exact q.elim
        | _ :: _ :: _ :: _, _, q => exact q.elim
      | _ => exact q.elim
/-- a try in which nothing is raised -/
theorem ms_thru {body : List Stmt} {h₀ : ExceptHandler} {hs : List ExceptHandler} {pos : Pos} {m : SM} (hb : MSs X.nox body m) : MS X (.Try body (h₀ :: hs) [] [] pos) m := ps_try_thru0 hb
end
end Mr
namespace Mr
open PySem PySem.Spec PyProof.Rows L2
variable [Wd]
local macro_rules | `(tactic| decreasing_trivial_pre_omega) => `(tactic| (first | (with_reducible refine sat_seq ?_) | (with_reducible refine seqK_nx ?_) | (with_reducible refine seqK_rt ?_) | (with_reducible refine forK_nx ?_) | (with_reducible refine forK_rt ?_) | (with_reducible refine fnK_rt ?_) | (with_reducible refine frzK_nx ?_) | (with_reducible refine sat_setS ?_) | (with_reducible refine sat_set ?_) | (with_reducible refine sat_unp ?_) | (with_reducible refine sat_sif ?_) | (with_reducible refine sat_ret ?_) | (with_reducible refine sat_skip ?_) | (with_reducible refine sat_expr ?_) | (with_reducible refine sat_par2 ?_) | (with_reducible refine sat_par3 ?_) | (with_reducible refine sat_frz ?_) | (with_reducible refine sat_frzA ?_) | (with_reducible refine sat_c ?_) | (with_reducible refine sat_bin ?_) | (with_reducible refine sat_un ?_) | (with_reducible refine sat_cb ?_) | (with_reducible refine sat_call ?_) | (with_reducible refine sat_cons ?_) | (with_reducible refine sat_nil ?_) | (with_reducible refine sat_tb ?_) | (with_reducible refine sat_tv ?_) | (with_reducible refine sat_tn ?_) | (with_reducible refine sat_ts ?_) | (with_reducible refine sat_to ?_) | (with_reducible refine sat_ta ?_) | (with_reducible refine sat_if' ?_) | (with_reducible refine sat_and ?_) | (with_reducible refine sat_or ?_) | (with_reducible refine sat_not ?_) | (with_reducible refine sat_tup ?_) | (with_reducible refine sat_lst ?_) | (with_reducible refine sat_sl ?_) | (with_reducible refine sat_oNone ?_) | (with_reducible refine sat_oSome ?_) | (with_reducible refine sat_scal ?_) | (with_reducible refine sat_iv ?_) | (with_reducible refine sat_ir ?_) | (with_reducible refine sat_lr1 ?_) | (with_reducible refine sat_lr2 ?_) | ((with_reducible refine sat_var (d := ?_) ?h0 ?_); (case h0 => exact rfl)) | ((with_reducible refine sat_varB ?_ ?_); exact rfl) | ((with_reducible refine sat_retO (d := ?_) ?h0 ?_); (case h0 => exact rfl)) | ((with_reducible refine sat_retS (d := ?_) ?h0 ?_); (case h0 => exact rfl)) | ((with_reducible refine sat_ixO (ds := ?_) ?h0 ?_); (case h0 => exact rfl)) | ((with_reducible refine sat_ixS (d := ?_) ?h0 ?_); (case h0 => exact rfl)) | ((with_reducible refine sat_app (ds := ?_) ?h0 ?_); (case h0 => exact rfl)) | ((with_reducible refine sat_ext (ds := ?_) ?h0 ?_); (case h0 => exact rfl)) | ((with_reducible refine sat_aug (n := ?_) ?h0 ?_); (case h0 => exact rfl)) | (with_reducible refine g2_ss ?_) | (with_reducible refine g2_so ?_) | (with_reducible refine g2_os ?_) | (with_reducible refine g2_oo ?_) | (with_reducible refine g1_s ?_) | (with_reducible refine g1_o ?_) | (with_reducible refine ga_1 ?_) | (with_reducible refine ga_2 ?_) | (with_reducible refine ga_3 ?_) | (with_reducible refine r2 gAdd_int ?_) | (with_reducible refine r2 gSub_int ?_) | (with_reducible refine r2 gEq_int ?_) | (with_reducible refine r2 gNe_int ?_) | (with_reducible refine r2 gLt_int ?_) | (with_reducible refine r2 gLe_int ?_) | (with_reducible refine r2 gGt_int ?_) | (with_reducible refine r2 gGe_int ?_) | (with_reducible refine r2 gEq_str ?_) | (with_reducible refine r2 gNe_str ?_) | (with_reducible refine r2 gLt_str ?_) | (with_reducible refine ra gLen_list ?_) | (with_reducible refine ra gInt_int ?_) | (with_reducible refine ra gMin_int ?_) | (with_reducible refine ra gMax_int ?_) | (with_reducible refine ra gMin_str ?_) | (with_reducible refine ra gMax_str ?_) | (with_reducible refine r1 gNeg_int ?_) | ((with_reducible refine ds_and (ds := ?_) ?h0 ?h1 ?_); (case h0 => exact rfl); (case h1 => exact rfl)) | ((with_reducible refine len_and ?_ ?_); exact rfl) | ((with_reducible refine scal_and ?_ ?_); exact rfl) | (with_reducible refine ⟨_, _, rfl, rfl, ?_⟩) | (with_reducible refine ⟨_, rfl, ?_⟩) | ((with_reducible refine lt_and ?_ ?_); exact rfl) | ((with_reducible refine lt2_and ?_ ?_); exact rfl) | ((with_reducible refine lt3_and ?_ ?_); exact rfl) | (simp only [List.set_cons_zero, List.set_cons_succ, share_sh, share_ow, share_bg, data_sh, data_ow, frzE_nil, frzE_cons, frz1_z, frz1_zs, frz1_s, wipeE_nil, wipeE_cons])))
abbrev cD (x y : Str) (t : Bool) : PyData := .tuple [.str x, .str y, .bool t]
abbrev sD (x y : Str) (t u : Bool) : PyData := .tuple [cD x y t, .bool u]
/-- a step -/
structure Sp1 where
  x : Str
  y : Str
  t : Bool
  u : Bool
abbrev Sp1.d (s : Sp1) : PyData := sD s.x s.y s.t s.u
abbrev Sp1.c (s : Sp1) : PyData := cD s.x s.y s.t
def Sp1.b (s : Sp1) : Str := if s.u then s.y else s.x
def Sp1.e (s : Sp1) : Str := if s.u then s.x else s.y
structure Sp1.Ok (s : Sp1) : Prop where
  kx : Kl (.str s.x)
  ky : Kl (.str s.y)
  le : s.t = true → ¬ (s.y.cps.toList < s.x.cps.toList)
  tu : s.u = true → s.t = true ∧ (s.x == s.y) = false
theorem letters_in {c : Nat} (h : 97 ≤ c) (h' : c ≤ 122) : c ∈ (Str.ofString "abcdefghijklmnopqrstuvwxyz").cps.toList := by
  have : ∀ k : Fin 26, 97 + k.1 ∈ (Str.ofString "abcdefghijklmnopqrstuvwxyz").cps.toList := by decide +kernel
  have := this ⟨c - 97, by omega⟩
  rwa [show 97 + (c - 97) = c by omega] at this
section
variable {B : Bag} {Q : EV → Bag → Prop} {x y x' y' : Str} {t u t' u' : Bool} {s s' : Sp1}
theorem all_bools {ds : List PyData} (h : ∀ d ∈ ds, d = .bool true) : gAll [.list ds] = some (.sh (.bool true)) := by
  have : boolsD ds = some (ds.map fun _ => true) := by
    induction ds with
    | nil => rfl
    | cons d ds ih =>
      rw [h d (List.mem_cons_self ..)]
      simp only [boolsD, List.map_cons]
      rw [ih fun d hd => h d (List.mem_cons_of_mem _ hd)]
      rfl
  simp only [gAll, this, Option.map_some]
  congr 3
  simp
theorem gLe_str {a b : Str} : gLe (.str a) (.str b) = some (.sh (.bool (!decide (b.cps.toList < a.cps.toList)))) := by
  simp only [gLe, okC_str, if_true, lt_strD]
theorem kind_sat (h : Kl (.str x)) (q : Q (.sh (.bool true)) B) : Sat (m_is_kind [.sh (.str x)] B) Q := by
  obtain ⟨x', e, h1, h2, h3⟩ := h
  cases e
  have hz : x.length ≤ sizeLine := sz (by show x.cps.size ≤ _; omega)
  unfold m_is_kind
  refine sat_fn (by simp only [List.map_cons, List.map_nil, List.length_cons, List.length_nil, List.replicate, List.cons_append, List.nil_append, Nat.reduceAdd, Nat.reduceSub]; exact rfl) ?_
  repeat (first | (with_reducible refine r1 (show gIsi "str" (.str x) = some (.sh (.bool true)) from rfl) ?_) | decreasing_trivial_pre_omega)
  refine ⟨fun _ => ?_, (fun z => nomatch z)⟩
  repeat (first | (with_reducible refine sat_chain ?_) | (with_reducible refine ra (show gLen [.str x] = some (.sh (.int (x.length : Int))) by simp only [gLen, if_pos hz]) ?_) | decreasing_trivial_pre_omega)
  refine ⟨_, _, _, rfl, rfl, gLt_int, fun _ => ?_, fun z => absurd z (by rw [decide_eq_true (by show (0 : Int) < (x.cps.size : Int); omega)]; decide)⟩
  repeat decreasing_trivial_pre_omega
  refine ⟨fun _ => ?_, fun z => absurd z (by rw [decide_eq_true (by show (x.cps.size : Int) ≤ 8; omega)]; decide)⟩
  repeat decreasing_trivial_pre_omega
  refine sat_compM (fun _ => .bool true) ?_
  repeat decreasing_trivial_pre_omega
  refine ⟨?_, ?_, ?_⟩
  · rw [List.length_map]; exact hz
  · intro d hd
    obtain ⟨c, hc, rfl⟩ := List.mem_map.mp hd
    simp only [low, List.all_eq_true, Bool.and_eq_true, decide_eq_true_eq] at h1
    refine ⟨_, rfl, ?_⟩
    repeat decreasing_trivial_pre_omega
    refine r2 (show gIn (.str ⟨#[c]⟩) (.str "abcdefghijklmnopqrstuvwxyz") = some (.sh (.bool (decide (c ∈ (Str.ofString "abcdefghijklmnopqrstuvwxyz").cps.toList)))) from rfl) ?_
    rw [decide_eq_true (letters_in (h1 c hc).1 (h1 c hc).2)]
    exact ⟨rfl, rfl⟩
  · repeat decreasing_trivial_pre_omega
    refine ra (all_bools fun d hd => ?_) ?_
    · obtain ⟨_, _, rfl⟩ := List.mem_map.mp hd
      rfl
    · repeat decreasing_trivial_pre_omega
      exact q
theorem is_cart_sat (hs : s.Ok) (q : Q (.sh (.bool true)) B) : Sat (m_is_cart [.sh s.c] B) Q := by
  obtain ⟨x, y, t, u⟩ := s
  obtain ⟨kx, ky, le, _⟩ := hs
  dsimp only at kx ky le
  unfold m_is_cart
  refine sat_fn (by simp only [List.map_cons, List.map_nil, List.length_cons, List.length_nil, List.replicate, List.cons_append, List.nil_append, Nat.reduceAdd, Nat.reduceSub]; exact rfl) ?_
  repeat (first | (with_reducible refine r1 (show gIsi "tuple" (cD x y t) = some (.sh (.bool true)) from rfl) ?_) | decreasing_trivial_pre_omega)
  refine ⟨fun _ => ?_, (fun z => nomatch z)⟩
  repeat (first | (with_reducible refine ra (show gLen [cD x y t] = some (.sh (.int 3)) from rfl) ?_) | decreasing_trivial_pre_omega)
  refine ⟨fun _ => ?_, (fun z => nomatch z)⟩
  repeat (first | (with_reducible refine r2 (show gIx (cD x y t) (.int 2) = some (.sh (.bool t)) from rfl) ?_) | (with_reducible refine r1 (show gIsi "bool" (.bool t) = some (.sh (.bool true)) from rfl) ?_) | decreasing_trivial_pre_omega)
  refine ⟨(fun z => nomatch z), fun _ => ?_⟩
  repeat decreasing_trivial_pre_omega
  unfold m_is_cart_1
  repeat (first | (with_reducible refine r2 (show gIx (cD x y t) (.int 0) = some (.sh (.str x)) from rfl) ?_) | (with_reducible refine kind_sat kx ?_) | decreasing_trivial_pre_omega)
  refine ⟨fun _ => ?_, (fun z => nomatch z)⟩
  repeat (first | (with_reducible refine r2 (show gIx (cD x y t) (.int 1) = some (.sh (.str y)) from rfl) ?_) | (with_reducible refine kind_sat ky ?_) | decreasing_trivial_pre_omega)
  refine ⟨fun _ => ?_, (fun z => nomatch z)⟩
  repeat (first | (with_reducible refine r2 (show gIx (cD x y t) (.int 2) = some (.sh (.bool t)) from rfl) ?_) | decreasing_trivial_pre_omega)
  cases t
  · refine ⟨(fun z => nomatch z), fun _ => ?_⟩
    repeat decreasing_trivial_pre_omega
    exact q
  · refine ⟨fun _ => ?_, (fun z => nomatch z)⟩
    repeat (first | (with_reducible refine r2 (show gIx (cD x y true) (.int 0) = some (.sh (.str x)) from rfl) ?_) | (with_reducible refine r2 (show gIx (cD x y true) (.int 1) = some (.sh (.str y)) from rfl) ?_) | (with_reducible refine r2 gLe_str ?_) | decreasing_trivial_pre_omega)
    rw [decide_eq_false (le rfl)]
    exact q
theorem is_step_sat (hs : s.Ok) (q : Q (.sh (.bool true)) B) : Sat (m_is_step [.sh s.d] B) Q := by
  have hs' := hs
  obtain ⟨x, y, t, u⟩ := s
  obtain ⟨kx, ky, le, tu⟩ := hs
  dsimp only at kx ky le tu
  unfold m_is_step
  refine sat_fn (by simp only [List.map_cons, List.map_nil, List.length_cons, List.length_nil, List.replicate, List.cons_append, List.nil_append, Nat.reduceAdd, Nat.reduceSub]; exact rfl) ?_
  repeat (first | (with_reducible refine r1 (show gIsi "tuple" (sD x y t u) = some (.sh (.bool true)) from rfl) ?_) | decreasing_trivial_pre_omega)
  refine ⟨fun _ => ?_, (fun z => nomatch z)⟩
  repeat (first | (with_reducible refine ra (show gLen [sD x y t u] = some (.sh (.int 2)) from rfl) ?_) | decreasing_trivial_pre_omega)
  refine ⟨fun _ => ?_, (fun z => nomatch z)⟩
  repeat (first | (with_reducible refine r2 (show gIx (sD x y t u) (.int 0) = some (.sh (cD x y t)) from rfl) ?_) | (with_reducible refine is_cart_sat (s := ⟨x, y, t, u⟩) hs' ?_) | decreasing_trivial_pre_omega)
  refine ⟨fun _ => ?_, (fun z => nomatch z)⟩
  repeat (first | (with_reducible refine r2 (show gIx (sD x y t u) (.int 1) = some (.sh (.bool u)) from rfl) ?_) | (with_reducible refine r1 (show gIsi "bool" (.bool u) = some (.sh (.bool true)) from rfl) ?_) | decreasing_trivial_pre_omega)
  refine ⟨(fun z => nomatch z), fun _ => ?_⟩
  repeat decreasing_trivial_pre_omega
  unfold m_is_step_1
  repeat (first | (with_reducible refine r2 (show gIx (sD x y t u) (.int 1) = some (.sh (.bool u)) from rfl) ?_) | decreasing_trivial_pre_omega)
  cases u
  · refine ⟨(fun z => nomatch z), fun _ => ?_⟩
    repeat decreasing_trivial_pre_omega
    exact q
  · obtain ⟨rfl, ne⟩ := tu rfl
    refine ⟨fun _ => ?_, (fun z => nomatch z)⟩
    repeat (first | (with_reducible refine r2 (show gIx (sD x y true true) (.int 0) = some (.sh (cD x y true)) from rfl) ?_) | (with_reducible refine r2 (show gIx (cD x y true) (.int 2) = some (.sh (.bool true)) from rfl) ?_) | decreasing_trivial_pre_omega)
    refine ⟨fun _ => ?_, (fun z => nomatch z)⟩
    repeat (first | (with_reducible refine r2 (show gIx (sD x y true true) (.int 0) = some (.sh (cD x y true)) from rfl) ?_) | (with_reducible refine r2 (show gIx (cD x y true) (.int 0) = some (.sh (.str x)) from rfl) ?_) | (with_reducible refine r2 (show gIx (cD x y true) (.int 1) = some (.sh (.str y)) from rfl) ?_) | decreasing_trivial_pre_omega)
    rw [ne]
    exact q
theorem beginOf_sat (q : Q (.sh (.str s.b)) B) : Sat (m_begin_of [.sh s.d] B) Q := by
  obtain ⟨x, y, t, u⟩ := s
  unfold m_begin_of
  refine sat_fn (by simp only [List.map_cons, List.map_nil, List.length_cons, List.length_nil, List.replicate, List.cons_append, List.nil_append, Nat.reduceAdd, Nat.reduceSub]; exact rfl) ?_
  repeat decreasing_trivial_pre_omega
  cases u
  · refine ⟨(fun h => nomatch h), fun _ => ?_⟩
    repeat decreasing_trivial_pre_omega
    exact q
  · refine ⟨fun _ => ?_, (fun h => nomatch h)⟩
    repeat decreasing_trivial_pre_omega
    exact q
theorem endOf_sat (q : Q (.sh (.str s.e)) B) : Sat (m_end_of [.sh s.d] B) Q := by
  obtain ⟨x, y, t, u⟩ := s
  unfold m_end_of
  refine sat_fn (by simp only [List.map_cons, List.map_nil, List.length_cons, List.length_nil, List.replicate, List.cons_append, List.nil_append, Nat.reduceAdd, Nat.reduceSub]; exact rfl) ?_
  repeat decreasing_trivial_pre_omega
  cases u
  · refine ⟨(fun h => nomatch h), fun _ => ?_⟩
    repeat decreasing_trivial_pre_omega
    exact q
  · refine ⟨fun _ => ?_, (fun h => nomatch h)⟩
    repeat decreasing_trivial_pre_omega
    exact q
theorem Lbegin_sat (q : Q (.sh (.str s.b)) B) : Sat (m_L_begin [.sh s.d] B) Q := begin_str q
theorem Lend_sat (q : Q (.sh (.str s.e)) B) : Sat (m_L_end [.sh s.d] B) Q := end_str q
theorem couple_sat (q : Q (.sh (.bool (s.e == s'.b))) B) : Sat (m_couple [.sh s.d, .sh s'.d] B) Q := by
  unfold m_couple
  refine sat_fn (by simp only [List.map_cons, List.map_nil, List.length_cons, List.length_nil, List.replicate, List.cons_append, List.nil_append, Nat.reduceAdd, Nat.reduceSub]; exact rfl) ?_
  repeat (first | (with_reducible refine endOf_sat ?_) | (with_reducible refine beginOf_sat ?_) | decreasing_trivial_pre_omega)
  exact q
end
end Mr
namespace Mr
open PySem PySem.Spec PyProof.Rows L2
variable [Wd]
local macro_rules | `(tactic| decreasing_trivial_pre_omega) => `(tactic| (first | (with_reducible refine sat_seq ?_) | (with_reducible refine seqK_nx ?_) | (with_reducible refine seqK_rt ?_) | (with_reducible refine forK_nx ?_) | (with_reducible refine forK_rt ?_) | (with_reducible refine fnK_rt ?_) | (with_reducible refine frzK_nx ?_) | (with_reducible refine sat_setS ?_) | (with_reducible refine sat_set ?_) | (with_reducible refine sat_unp ?_) | (with_reducible refine sat_sif ?_) | (with_reducible refine sat_ret ?_) | (with_reducible refine sat_skip ?_) | (with_reducible refine sat_expr ?_) | (with_reducible refine sat_par2 ?_) | (with_reducible refine sat_par3 ?_) | (with_reducible refine sat_frz ?_) | (with_reducible refine sat_frzA ?_) | (with_reducible refine sat_c ?_) | (with_reducible refine sat_bin ?_) | (with_reducible refine sat_un ?_) | (with_reducible refine sat_cb ?_) | (with_reducible refine sat_call ?_) | (with_reducible refine sat_cons ?_) | (with_reducible refine sat_nil ?_) | (with_reducible refine sat_tb ?_) | (with_reducible refine sat_tv ?_) | (with_reducible refine sat_tn ?_) | (with_reducible refine sat_ts ?_) | (with_reducible refine sat_to ?_) | (with_reducible refine sat_ta ?_) | (with_reducible refine sat_if' ?_) | (with_reducible refine sat_and ?_) | (with_reducible refine sat_or ?_) | (with_reducible refine sat_not ?_) | (with_reducible refine sat_tup ?_) | (with_reducible refine sat_lst ?_) | (with_reducible refine sat_sl ?_) | (with_reducible refine sat_oNone ?_) | (with_reducible refine sat_oSome ?_) | (with_reducible refine sat_scal ?_) | (with_reducible refine sat_iv ?_) | (with_reducible refine sat_ir ?_) | (with_reducible refine sat_lr1 ?_) | (with_reducible refine sat_lr2 ?_) | ((with_reducible refine sat_var (d := ?_) ?h0 ?_); (case h0 => exact rfl)) | ((with_reducible refine sat_varB ?_ ?_); exact rfl) | ((with_reducible refine sat_retO (d := ?_) ?h0 ?_); (case h0 => exact rfl)) | ((with_reducible refine sat_retS (d := ?_) ?h0 ?_); (case h0 => exact rfl)) | ((with_reducible refine sat_ixO (ds := ?_) ?h0 ?_); (case h0 => exact rfl)) | ((with_reducible refine sat_ixS (d := ?_) ?h0 ?_); (case h0 => exact rfl)) | ((with_reducible refine sat_app (ds := ?_) ?h0 ?_); (case h0 => exact rfl)) | ((with_reducible refine sat_ext (ds := ?_) ?h0 ?_); (case h0 => exact rfl)) | ((with_reducible refine sat_aug (n := ?_) ?h0 ?_); (case h0 => exact rfl)) | (with_reducible refine g2_ss ?_) | (with_reducible refine g2_so ?_) | (with_reducible refine g2_os ?_) | (with_reducible refine g2_oo ?_) | (with_reducible refine g1_s ?_) | (with_reducible refine g1_o ?_) | (with_reducible refine ga_1 ?_) | (with_reducible refine ga_2 ?_) | (with_reducible refine ga_3 ?_) | (with_reducible refine r2 gAdd_int ?_) | (with_reducible refine r2 gSub_int ?_) | (with_reducible refine r2 gEq_int ?_) | (with_reducible refine r2 gNe_int ?_) | (with_reducible refine r2 gLt_int ?_) | (with_reducible refine r2 gLe_int ?_) | (with_reducible refine r2 gGt_int ?_) | (with_reducible refine r2 gGe_int ?_) | (with_reducible refine r2 gEq_str ?_) | (with_reducible refine r2 gNe_str ?_) | (with_reducible refine r2 gLt_str ?_) | (with_reducible refine ra gLen_list ?_) | (with_reducible refine ra gInt_int ?_) | (with_reducible refine ra gMin_int ?_) | (with_reducible refine ra gMax_int ?_) | (with_reducible refine ra gMin_str ?_) | (with_reducible refine ra gMax_str ?_) | (with_reducible refine r1 gNeg_int ?_) | ((with_reducible refine ds_and (ds := ?_) ?h0 ?h1 ?_); (case h0 => exact rfl); (case h1 => exact rfl)) | ((with_reducible refine len_and ?_ ?_); exact rfl) | ((with_reducible refine scal_and ?_ ?_); exact rfl) | (with_reducible refine ⟨_, _, rfl, rfl, ?_⟩) | (with_reducible refine ⟨_, rfl, ?_⟩) | ((with_reducible refine lt_and ?_ ?_); exact rfl) | ((with_reducible refine lt2_and ?_ ?_); exact rfl) | ((with_reducible refine lt3_and ?_ ?_); exact rfl) | (simp only [List.set_cons_zero, List.set_cons_succ, share_sh, share_ow, share_bg, data_sh, data_ow, frzE_nil, frzE_cons, frz1_z, frz1_zs, frz1_s, wipeE_nil, wipeE_cons])))
abbrev Row := List Sp1
def Path : Str → Row → Str → Prop
  | a, [], b => a = b
  | a, s :: r, b => s.b = a ∧ Path s.e r b
abbrev rD (r : Row) : List PyData := r.map Sp1.d
theorem Path.append : ∀ {xs ys : Row} {a b c : Str}, Path a xs b → Path b ys c → Path a (xs ++ ys) c
  | [], _, _, _, _, h, k => by cases h; exact k
  | s :: xs, ys, a, b, c, h, k => ⟨h.1, Path.append h.2 k⟩
theorem Path.split : ∀ {xs ys : Row} {a c : Str}, Path a (xs ++ ys) c → ∃ b, Path a xs b ∧ Path b ys c
  | [], _, a, _, h => ⟨a, rfl, h⟩
  | s :: xs, ys, a, c, h => by
    obtain ⟨b, h1, h2⟩ := Path.split h.2
    exact ⟨b, ⟨h.1, h1⟩, h2⟩
theorem Path.first {s : Sp1} {r : Row} {a b : Str} (h : Path a (s :: r) b) : s.b = a := h.1
theorem Path.last {s : Sp1} {r : Row} {a b : Str} (h : Path a (r ++ [s]) b) : s.e = b := by
  obtain ⟨c, _, h2⟩ := h.split
  exact h2.2
theorem Path.pairs : ∀ {r : Row} {a b : Str}, Path a r b → ∀ p ∈ (rD r).zip ((rD r).drop 1), ∃ s s' : Sp1, s ∈ r ∧ s' ∈ r ∧ p = (s.d, s'.d) ∧ s.e = s'.b
  | [], _, _, _, p, hp => by cases hp
  | [s], _, _, _, p, hp => by cases hp
  | s :: s' :: r, a, b, h, p, hp => by
    have hp' : p = (s.d, s'.d) ∨ p ∈ (rD (s' :: r)).zip ((rD (s' :: r)).drop 1) := by
      simpa [rD] using hp
    rcases hp' with rfl | hp'
    · exact ⟨s, s', by simp, by simp, rfl, h.2.1.symm⟩
    · obtain ⟨z, z', m1, m2, e1, e2⟩ := Path.pairs h.2 p hp'
      exact ⟨z, z', List.mem_cons_of_mem _ m1, List.mem_cons_of_mem _ m2, e1, e2⟩
theorem row_ends_of {r : Row} (h : r ≠ []) : ∃ s r1 r2 s', r = s :: r1 ∧ r = r2 ++ [s'] := by
  cases r with
  | nil => exact (h rfl).elim
  | cons s r1 =>
    refine ⟨s, r1, (s :: r1).dropLast, (s :: r1).getLast h, rfl, ?_⟩
    exact (List.dropLast_concat_getLast h).symm
section
variable {ρ : Env} {B : Bag} {Q : EV → Bag → Prop} {QI : List PyData → Bag → Prop} {ms : AM} {r r' : Row} {a b c : Str}
theorem sat_zip (h : Sat (ms ρ B) fun es B1 => ∃ xs ys, es = [.sh (.list xs), .sh (.list ys)] ∧ QI (zipD xs ys) B1) : Sat (iZipM ms ρ B) QI := by
  unfold iZipM
  rw [sat_bind]
  refine sat_mono h fun es B1 ⟨xs, ys, h1, h2⟩ => ?_
  subst h1
  exact sat_ok h2
theorem is_row_sat (hr : r ≠ []) (ok : ∀ s ∈ r, s.Ok) (p : Path a r b) (hl : r.length ≤ 90000) (q : Q (.sh (.bool true)) B) : Sat (m_is_row [.sh (.list (rD r))] B) Q := by
  have hz : r.length ≤ sizeLine := sz (by omega)
  have ne : (rD r).isEmpty = false := by cases r with
    | nil => exact (hr rfl).elim
    | cons _ _ => rfl
  unfold m_is_row
  refine sat_fn (by simp only [List.map_cons, List.map_nil, List.length_cons, List.length_nil, List.replicate, List.cons_append, List.nil_append, Nat.reduceAdd, Nat.reduceSub]; exact rfl) ?_
  repeat (first | (with_reducible refine r1 (show gIsi "list" (.list (rD r)) = some (.sh (.bool true)) from rfl) ?_) | decreasing_trivial_pre_omega)
  refine ⟨fun _ => ?_, (fun z => nomatch z)⟩
  repeat (first | (with_reducible refine r2 (show gEqN (.list (rD r)) (.list []) = some (.sh (.bool (rD r).isEmpty)) from rfl) ?_) | decreasing_trivial_pre_omega)
  rw [ne]
  refine ⟨fun _ => ?_, (fun z => nomatch z)⟩
  repeat decreasing_trivial_pre_omega
  refine sat_compM (fun _ => .bool true) ?_
  repeat decreasing_trivial_pre_omega
  refine ⟨by rw [List.length_map]; exact hz, ?_, ?_⟩
  · intro d hd
    obtain ⟨s, hs, rfl⟩ := List.mem_map.mp hd
    refine ⟨_, rfl, ?_⟩
    repeat (first | (with_reducible refine is_step_sat (ok s hs) ?_) | decreasing_trivial_pre_omega)
    exact ⟨by trivial, by trivial⟩
  · repeat decreasing_trivial_pre_omega
    refine ra (all_bools fun d hd => ?_) ?_
    · obtain ⟨_, _, rfl⟩ := List.mem_map.mp hd
      rfl
    · repeat decreasing_trivial_pre_omega
      refine ⟨(fun z => nomatch z), fun _ => ?_⟩
      repeat decreasing_trivial_pre_omega
      unfold m_is_row_1
      repeat decreasing_trivial_pre_omega
      refine sat_compM (fun _ => .bool true) ?_
      refine sat_zip ?_
      repeat (first | (with_reducible refine r1 (show gSl (some 1) none (.list (rD r)) = some (.ow (.list (cutL (rD r) (some ((1 : Nat) : Int)) none))) from rfl) ?_) | decreasing_trivial_pre_omega)
      refine ⟨_, _, rfl, ?_⟩
      rw [cutL_from]
      refine ⟨?_, ?_, ?_⟩
      · unfold zipD
        rw [List.length_map, List.length_zip, List.length_map]
        exact Nat.le_trans (Nat.min_le_left ..) hz
      · intro d hd
        obtain ⟨z, hz, rfl⟩ := List.mem_map.mp hd
        obtain ⟨s, s', m1, m2, rfl, e⟩ := p.pairs z hz
        refine ⟨_, rfl, ?_⟩
        repeat (first | (with_reducible refine couple_sat ?_) | decreasing_trivial_pre_omega)
        exact ⟨by trivial, by rw [e]; simp⟩
      · repeat decreasing_trivial_pre_omega
        refine ra (all_bools fun d hd => ?_) ?_
        · obtain ⟨_, _, rfl⟩ := List.mem_map.mp hd
          rfl
        · repeat decreasing_trivial_pre_omega
          exact q
theorem row_ends_sat (hr : r ≠ []) (p : Path a r b) (q : Q (.sh (.tuple [.str a, .str b])) B) : Sat (m_row_ends [.sh (.list (rD r))] B) Q := by
  obtain ⟨s, r1, r2, s', e1, e2⟩ := row_ends_of hr
  have p1 := p
  have p2 := p
  rw [e1] at p1
  rw [e2] at p2
  have i1 : gIx (.list (rD r)) (.int 0) = some (.sh s.d) := by rw [e1]; exact gIx_first
  have i2 : gIx (.list (rD r)) (.int (-1)) = some (.sh s'.d) := by rw [e2, rD, List.map_append]; exact gIx_last
  unfold m_row_ends
  refine sat_fn (by simp only [List.map_cons, List.map_nil, List.length_cons, List.length_nil, List.replicate, List.cons_append, List.nil_append, Nat.reduceAdd, Nat.reduceSub]; exact rfl) ?_
  repeat (first | (with_reducible refine Mr.r2 i1 ?_) | (with_reducible refine Mr.r2 i2 ?_) | (with_reducible refine beginOf_sat ?_) | (with_reducible refine endOf_sat ?_) | decreasing_trivial_pre_omega)
  rw [p1.first, p2.last]
  exact q
end
/-! trains -/
abbrev Tn := List (Nat × Row)
abbrev pD (p : Nat × Row) : PyData := .tuple [.int (p.1 : Int), .list (rD p.2)]
abbrev tD (ts : Tn) : List PyData := ts.map pD
abbrev reps (m : Nat) (r : Row) : Row := (List.replicate m r).flatten
def wr : Tn → Row
  | [] => []
  | p :: ts => reps p.1 p.2 ++ wr ts
def TPath : Str → Tn → Str → Prop
  | a, [], b => a = b
  | a, p :: ts, c => 0 < p.1 ∧ p.2 ≠ [] ∧ ∃ b, Path a p.2 b ∧ (p.1 = 1 ∨ a = b) ∧ TPath b ts c
theorem reps_len (m : Nat) (r : Row) : (reps m r).length = m * r.length := by
  induction m with
  | zero => simp [reps]
  | succ m ih =>
    have : reps (m + 1) r = r ++ reps m r := by simp [reps, List.replicate_succ]
    rw [this, List.length_append, ih, Nat.add_mul]; omega
theorem reps_at : ∀ (m : Nat) (r : Row) (j : Nat), j < m * r.length → (reps m r)[j]? = r[j % r.length]?
  | 0, r, j, h => by omega
  | m + 1, r, j, h => by
    have e : reps (m + 1) r = r ++ reps m r := by simp [reps, List.replicate_succ]
    rw [e]
    by_cases hj : j < r.length
    · rw [List.getElem?_append_left hj, Nat.mod_eq_of_lt hj]
    · rw [List.getElem?_append_right (by omega), reps_at m r (j - r.length) (by rw [Nat.add_mul] at h; omega)]
      rw [← Nat.mod_eq_sub_mod (by omega)]
theorem reps_path {r : Row} {a b : Str} (p : Path a r b) : ∀ (m : Nat), 0 < m → (m = 1 ∨ a = b) → Path a (reps m r) b
  | 0, h, _ => by omega
  | 1, _, _ => by simpa [reps] using p
  | m + 2, _, h => by
    obtain rfl : a = b := h.elim (by omega) id
    have e : reps (m + 2) r = r ++ reps (m + 1) r := by simp [reps, List.replicate_succ]
    rw [e]
    exact p.append (reps_path p (m + 1) (by omega) (.inr rfl))
theorem TPath.path : ∀ {ts : Tn} {a c : Str}, TPath a ts c → Path a (wr ts) c
  | [], _, _, h => h
  | p :: ts, a, c, ⟨h1, h2, b, h3, h4, h5⟩ => (reps_path h3 p.1 h1 h4).append h5.path
theorem TPath.append : ∀ {ts us : Tn} {a b c : Str}, TPath a ts b → TPath b us c → TPath a (ts ++ us) c
  | [], _, _, _, _, h, k => by cases h; exact k
  | p :: ts, us, a, b, c, ⟨h1, h2, b', h3, h4, h5⟩, k => ⟨h1, h2, b', h3, h4, h5.append k⟩
theorem TPath.split : ∀ {ts us : Tn} {a c : Str}, TPath a (ts ++ us) c → ∃ b, TPath a ts b ∧ TPath b us c
  | [], _, a, _, h => ⟨a, rfl, h⟩
  | p :: ts, us, a, c, ⟨h1, h2, b', h3, h4, h5⟩ => by
    obtain ⟨b, k1, k2⟩ := h5.split
    exact ⟨b, ⟨h1, h2, b', h3, h4, k1⟩, k2⟩
theorem wr_append (ts us : Tn) : wr (ts ++ us) = wr ts ++ wr us := by
  induction ts with
  | nil => rfl
  | cons p ts ih => simp only [List.cons_append, wr, ih, List.append_assoc]
theorem wr_mem {s : Sp1} : ∀ {ts : Tn}, s ∈ wr ts → ∃ p ∈ ts, s ∈ p.2
  | [], h => by cases h
  | p :: ts, h => by
    rcases List.mem_append.mp h with h | h
    · obtain ⟨l, hl, hs⟩ := List.mem_flatten.mp h
      rw [List.eq_of_mem_replicate hl] at hs
      exact ⟨p, by simp, hs⟩
    · obtain ⟨p', hp, hs⟩ := wr_mem h
      exact ⟨p', by simp [hp], hs⟩
theorem TPath.mem : ∀ {ts : Tn} {a c : Str} {p : Nat × Row}, TPath a ts c → p ∈ ts → 0 < p.1 ∧ p.2 ≠ [] ∧ ∃ b b', Path b p.2 b' ∧ (p.1 = 1 ∨ b = b')
  | q :: ts, a, c, p, ⟨h1, h2, b, h3, h4, h5⟩, h => by
    rcases List.mem_cons.mp h with rfl | h
    · exact ⟨h1, h2, a, b, h3, h4⟩
    · exact h5.mem h
  | [], _, _, _, _, h => by cases h
theorem TPath.pairs : ∀ {ts : Tn} {a c : Str}, TPath a ts c → ∀ z ∈ (tD ts).zip ((tD ts).drop 1), ∃ p p' b b' b'', p.2 ≠ [] ∧ p'.2 ≠ [] ∧ z = (pD p, pD p') ∧ Path b p.2 b' ∧ Path b' p'.2 b''
  | [], _, _, _, p, hp => by cases hp
  | [s], _, _, _, p, hp => by cases hp
  | s :: s' :: r, a, b, ⟨h1, h2, b1, h3, h4, h5⟩, p, hp => by
    have hp' : p = (pD s, pD s') ∨ p ∈ (tD (s' :: r)).zip ((tD (s' :: r)).drop 1) := by
      simpa [tD] using hp
    rcases hp' with rfl | hp'
    · obtain ⟨k1, k2, b2, k3, _⟩ := h5
      exact ⟨s, s', a, b1, b2, h2, k2, rfl, h3, k3⟩
    · exact TPath.pairs h5 p hp'
end Mr
namespace Mr
open PySem PySem.Spec PyProof.Rows L2
variable [Wd]
local macro_rules | `(tactic| decreasing_trivial_pre_omega) => `(tactic| (first | (with_reducible refine sat_seq ?_) | (with_reducible refine seqK_nx ?_) | (with_reducible refine seqK_rt ?_) | (with_reducible refine forK_nx ?_) | (with_reducible refine forK_rt ?_) | (with_reducible refine fnK_rt ?_) | (with_reducible refine frzK_nx ?_) | (with_reducible refine sat_setS ?_) | (with_reducible refine sat_set ?_) | (with_reducible refine sat_unp ?_) | (with_reducible refine sat_sif ?_) | (with_reducible refine sat_ret ?_) | (with_reducible refine sat_skip ?_) | (with_reducible refine sat_expr ?_) | (with_reducible refine sat_par2 ?_) | (with_reducible refine sat_par3 ?_) | (with_reducible refine sat_frz ?_) | (with_reducible refine sat_frzA ?_) | (with_reducible refine sat_c ?_) | (with_reducible refine sat_bin ?_) | (with_reducible refine sat_un ?_) | (with_reducible refine sat_cb ?_) | (with_reducible refine sat_call ?_) | (with_reducible refine sat_cons ?_) | (with_reducible refine sat_nil ?_) | (with_reducible refine sat_tb ?_) | (with_reducible refine sat_tv ?_) | (with_reducible refine sat_tn ?_) | (with_reducible refine sat_ts ?_) | (with_reducible refine sat_to ?_) | (with_reducible refine sat_ta ?_) | (with_reducible refine sat_if' ?_) | (with_reducible refine sat_and ?_) | (with_reducible refine sat_or ?_) | (with_reducible refine sat_not ?_) | (with_reducible refine sat_tup ?_) | (with_reducible refine sat_lst ?_) | (with_reducible refine sat_sl ?_) | (with_reducible refine sat_oNone ?_) | (with_reducible refine sat_oSome ?_) | (with_reducible refine sat_scal ?_) | (with_reducible refine sat_iv ?_) | (with_reducible refine sat_ir ?_) | (with_reducible refine sat_lr1 ?_) | (with_reducible refine sat_lr2 ?_) | ((with_reducible refine sat_var (d := ?_) ?h0 ?_); (case h0 => exact rfl)) | ((with_reducible refine sat_varB ?_ ?_); exact rfl) | ((with_reducible refine sat_retO (d := ?_) ?h0 ?_); (case h0 => exact rfl)) | ((with_reducible refine sat_retS (d := ?_) ?h0 ?_); (case h0 => exact rfl)) | ((with_reducible refine sat_ixO (ds := ?_) ?h0 ?_); (case h0 => exact rfl)) | ((with_reducible refine sat_ixS (d := ?_) ?h0 ?_); (case h0 => exact rfl)) | ((with_reducible refine sat_app (ds := ?_) ?h0 ?_); (case h0 => exact rfl)) | ((with_reducible refine sat_ext (ds := ?_) ?h0 ?_); (case h0 => exact rfl)) | ((with_reducible refine sat_aug (n := ?_) ?h0 ?_); (case h0 => exact rfl)) | (with_reducible refine g2_ss ?_) | (with_reducible refine g2_so ?_) | (with_reducible refine g2_os ?_) | (with_reducible refine g2_oo ?_) | (with_reducible refine g1_s ?_) | (with_reducible refine g1_o ?_) | (with_reducible refine ga_1 ?_) | (with_reducible refine ga_2 ?_) | (with_reducible refine ga_3 ?_) | (with_reducible refine r2 gAdd_int ?_) | (with_reducible refine r2 gSub_int ?_) | (with_reducible refine r2 gEq_int ?_) | (with_reducible refine r2 gNe_int ?_) | (with_reducible refine r2 gLt_int ?_) | (with_reducible refine r2 gLe_int ?_) | (with_reducible refine r2 gGt_int ?_) | (with_reducible refine r2 gGe_int ?_) | (with_reducible refine r2 gEq_str ?_) | (with_reducible refine r2 gNe_str ?_) | (with_reducible refine r2 gLt_str ?_) | (with_reducible refine ra gLen_list ?_) | (with_reducible refine ra gInt_int ?_) | (with_reducible refine ra gMin_int ?_) | (with_reducible refine ra gMax_int ?_) | (with_reducible refine ra gMin_str ?_) | (with_reducible refine ra gMax_str ?_) | (with_reducible refine r1 gNeg_int ?_) | ((with_reducible refine ds_and (ds := ?_) ?h0 ?h1 ?_); (case h0 => exact rfl); (case h1 => exact rfl)) | ((with_reducible refine len_and ?_ ?_); exact rfl) | ((with_reducible refine scal_and ?_ ?_); exact rfl) | (with_reducible refine ⟨_, _, rfl, rfl, ?_⟩) | (with_reducible refine ⟨_, rfl, ?_⟩) | ((with_reducible refine lt_and ?_ ?_); exact rfl) | ((with_reducible refine lt2_and ?_ ?_); exact rfl) | ((with_reducible refine lt3_and ?_ ?_); exact rfl) | (simp only [List.set_cons_zero, List.set_cons_succ, share_sh, share_ow, share_bg, data_sh, data_ow, frzE_nil, frzE_cons, frz1_z, frz1_zs, frz1_s, wipeE_nil, wipeE_cons])))
section
variable {ρ : Env} {B : Bag} {Q : EV → Bag → Prop} {QS : Flow → Bag → Prop} {r : Row} {ts us : Tn} {a b c a' c' : Str} {m : Nat}
theorem is_number_sat {l n : Int} (q : Q (.sh (.bool (decide (l ≤ n)))) B) : Sat (m_is_number [.sh (.int l), .sh (.int n)] B) Q := by
  unfold m_is_number
  refine sat_fn (by simp only [List.map_cons, List.map_nil, List.length_cons, List.length_nil, List.replicate, List.cons_append, List.nil_append, Nat.reduceAdd, Nat.reduceSub]; exact rfl) ?_
  repeat decreasing_trivial_pre_omega
  unfold m_is_integer
  refine sat_fn (by simp only [List.map_cons, List.map_nil, List.length_cons, List.length_nil, List.replicate, List.cons_append, List.nil_append, Nat.reduceAdd, Nat.reduceSub]; exact rfl) ?_
  repeat (first | (with_reducible refine r1 (show gIsi "int" (.int n) = some (.sh (.bool true)) from rfl) ?_) | decreasing_trivial_pre_omega)
  refine ⟨fun _ => ?_, (fun z => nomatch z)⟩
  repeat (first | (with_reducible refine r1 (show gIsi "bool" (.int n) = some (.sh (.bool false)) from rfl) ?_) | decreasing_trivial_pre_omega)
  refine ⟨fun _ => ?_, (fun z => nomatch z)⟩
  repeat decreasing_trivial_pre_omega
  exact q
theorem is_part_sat (hm : 0 < m) (hr : r ≠ []) (ok : ∀ s ∈ r, s.Ok) (p : Path a r b) (hl : r.length ≤ 90000) (h : m = 1 ∨ a = b) (q : Q (.sh (.bool true)) B) : Sat (m_is_part [.sh (pD (m, r))] B) Q := by
  have i0 : gIx (pD (m, r)) (.int 0) = some (.sh (.int (m : Int))) := rfl
  have i1 : gIx (pD (m, r)) (.int 1) = some (.sh (.list (rD r))) := rfl
  unfold m_is_part
  refine sat_fn (by simp only [List.map_cons, List.map_nil, List.length_cons, List.length_nil, List.replicate, List.cons_append, List.nil_append, Nat.reduceAdd, Nat.reduceSub]; exact rfl) ?_
  repeat (first | (with_reducible refine r1 (show gIsi "tuple" (pD (m, r)) = some (.sh (.bool true)) from rfl) ?_) | decreasing_trivial_pre_omega)
  refine ⟨fun _ => ?_, (fun z => nomatch z)⟩
  repeat (first | (with_reducible refine ra (show gLen [pD (m, r)] = some (.sh (.int 2)) from rfl) ?_) | decreasing_trivial_pre_omega)
  refine ⟨fun _ => ?_, (fun z => nomatch z)⟩
  repeat (first | (with_reducible refine r2 i0 ?_) | (with_reducible refine is_number_sat ?_) | decreasing_trivial_pre_omega)
  rw [decide_eq_true (show (1 : Int) ≤ (m : Int) by omega)]
  refine ⟨fun _ => ?_, (fun z => nomatch z)⟩
  repeat (first | (with_reducible refine r2 i1 ?_) | (with_reducible refine is_row_sat hr ok p hl ?_) | decreasing_trivial_pre_omega)
  refine ⟨(fun z => nomatch z), fun _ => ?_⟩
  repeat decreasing_trivial_pre_omega
  unfold m_is_part_2
  repeat (first | (with_reducible refine r2 i1 ?_) | (with_reducible refine row_ends_sat hr p ?_) | decreasing_trivial_pre_omega)
  unfold m_is_part_1
  repeat (first | (with_reducible refine r2 i0 ?_) | decreasing_trivial_pre_omega)
  refine ⟨fun z => ?_, fun _ => q⟩
  repeat decreasing_trivial_pre_omega
  have : a = b := h.elim (fun e => absurd z (by rw [e]; decide)) id
  rw [this]
  simpa using q
theorem is_train_sat (ht : ts ≠ []) (ok : ∀ p ∈ ts, ∀ s ∈ p.2, s.Ok) (hp : TPath a ts c) (hl : ts.length ≤ 90000) (hr : ∀ p ∈ ts, p.2.length ≤ 90000) (q : Q (.sh (.bool true)) B) : Sat (m_is_train [.sh (.list (tD ts))] B) Q := by
  have hz : ts.length ≤ sizeLine := sz (by omega)
  have ne : (tD ts).isEmpty = false := by cases ts with
    | nil => exact (ht rfl).elim
    | cons _ _ => rfl
  unfold m_is_train
  refine sat_fn (by simp only [List.map_cons, List.map_nil, List.length_cons, List.length_nil, List.replicate, List.cons_append, List.nil_append, Nat.reduceAdd, Nat.reduceSub]; exact rfl) ?_
  repeat (first | (with_reducible refine r1 (show gIsi "list" (.list (tD ts)) = some (.sh (.bool true)) from rfl) ?_) | decreasing_trivial_pre_omega)
  refine ⟨fun _ => ?_, (fun z => nomatch z)⟩
  repeat (first | (with_reducible refine r2 (show gEqN (.list (tD ts)) (.list []) = some (.sh (.bool (tD ts).isEmpty)) from rfl) ?_) | decreasing_trivial_pre_omega)
  rw [ne]
  refine ⟨fun _ => ?_, (fun z => nomatch z)⟩
  repeat decreasing_trivial_pre_omega
  refine sat_compM (fun _ => .bool true) ?_
  repeat decreasing_trivial_pre_omega
  refine ⟨by rw [List.length_map]; exact hz, ?_, ?_⟩
  · intro d hd
    obtain ⟨p, hs, rfl⟩ := List.mem_map.mp hd
    obtain ⟨h1, h2, b, b', h3, h4⟩ := hp.mem hs
    refine ⟨_, rfl, ?_⟩
    repeat (first | (with_reducible refine is_part_sat (m := p.1) (r := p.2) h1 h2 (ok p hs) h3 (hr p hs) h4 ?_) | decreasing_trivial_pre_omega)
    exact ⟨by trivial, by trivial⟩
  · repeat decreasing_trivial_pre_omega
    refine ra (all_bools fun d hd => ?_) ?_
    · obtain ⟨_, _, rfl⟩ := List.mem_map.mp hd
      rfl
    · repeat decreasing_trivial_pre_omega
      refine ⟨(fun z => nomatch z), fun _ => ?_⟩
      repeat decreasing_trivial_pre_omega
      unfold m_is_train_1
      repeat decreasing_trivial_pre_omega
      refine sat_compM (fun _ => .bool true) ?_
      refine sat_zip ?_
      repeat (first | (with_reducible refine r1 (show gSl (some 1) none (.list (tD ts)) = some (.ow (.list (cutL (tD ts) (some ((1 : Nat) : Int)) none))) from rfl) ?_) | decreasing_trivial_pre_omega)
      refine ⟨_, _, rfl, ?_⟩
      rw [cutL_from]
      refine ⟨?_, ?_, ?_⟩
      · unfold zipD
        rw [List.length_map, List.length_zip, List.length_map]
        exact Nat.le_trans (Nat.min_le_left ..) hz
      · intro d hd
        obtain ⟨z, hz, rfl⟩ := List.mem_map.mp hd
        obtain ⟨p, p', b, b', b'', n1, n2, rfl, e1, e2⟩ := hp.pairs z hz
        refine ⟨_, rfl, ?_⟩
        repeat (first | (with_reducible refine r2 (show gIx (pD p) (.int 1) = some (.sh (.list (rD p.2))) from rfl) ?_) | (with_reducible refine r2 (show gIx (pD p') (.int 1) = some (.sh (.list (rD p'.2))) from rfl) ?_) | (with_reducible refine row_ends_sat n1 e1 ?_) | (with_reducible refine row_ends_sat n2 e2 ?_) | (with_reducible refine r2 (show gIx (.tuple [.str b, .str b']) (.int 1) = some (.sh (.str b')) from rfl) ?_) | (with_reducible refine r2 (show gIx (.tuple [.str b', .str b'']) (.int 0) = some (.sh (.str b')) from rfl) ?_) | decreasing_trivial_pre_omega)
        exact ⟨by trivial, by simp⟩
      · repeat decreasing_trivial_pre_omega
        refine ra (all_bools fun d hd => ?_) ?_
        · obtain ⟨_, _, rfl⟩ := List.mem_map.mp hd
          rfl
        · repeat decreasing_trivial_pre_omega
          exact q
theorem tn_ends (h : ts ≠ []) : ∃ p r1 r2 p', ts = p :: r1 ∧ ts = r2 ++ [p'] := by
  cases ts with
  | nil => exact (h rfl).elim
  | cons s r1 =>
    refine ⟨s, r1, (s :: r1).dropLast, (s :: r1).getLast h, rfl, ?_⟩
    exact (List.dropLast_concat_getLast h).symm
theorem train_ends_sat (ht : ts ≠ []) (hp : TPath a ts c) (q : Q (.sh (.tuple [.str a, .str c])) B) : Sat (m_train_ends [.sh (.list (tD ts))] B) Q := by
  obtain ⟨s, r1, r2, s', e1, e2⟩ := tn_ends ht
  have p1 := hp
  have p2 := hp
  rw [e1] at p1
  rw [e2] at p2
  obtain ⟨_, n1, b1, k1, _⟩ := p1
  obtain ⟨b2, _, _, n2, b3, k2, _, e3⟩ := p2.split
  cases e3
  have i1 : gIx (.list (tD ts)) (.int 0) = some (.sh (pD s)) := by rw [e1]; exact gIx_first
  have i2 : gIx (.list (tD ts)) (.int (-1)) = some (.sh (pD s')) := by rw [e2, tD, List.map_append]; exact gIx_last
  unfold m_train_ends
  refine sat_fn (by simp only [List.map_cons, List.map_nil, List.length_cons, List.length_nil, List.replicate, List.cons_append, List.nil_append, Nat.reduceAdd, Nat.reduceSub]; exact rfl) ?_
  repeat (first | (with_reducible refine Mr.r2 i1 ?_) | (with_reducible refine Mr.r2 i2 ?_) | (with_reducible refine Mr.r2 (show gIx (pD s) (.int 1) = some (.sh (.list (rD s.2))) from rfl) ?_) | (with_reducible refine Mr.r2 (show gIx (pD s') (.int 1) = some (.sh (.list (rD s'.2))) from rfl) ?_) | (with_reducible refine row_ends_sat n1 k1 ?_) | (with_reducible refine row_ends_sat n2 k2 ?_) | (with_reducible refine Mr.r2 (show gIx (.tuple [.str a, .str b1]) (.int 0) = some (.sh (.str a)) from rfl) ?_) | (with_reducible refine Mr.r2 (show gIx (.tuple [.str b2, .str c]) (.int 1) = some (.sh (.str c)) from rfl) ?_) | decreasing_trivial_pre_omega)
  exact q
theorem sum_ints (ns : List Int) : gSum [.list (ns.map PyData.int)] = some (.sh (.int ns.sum)) := by
  have : intsD (ns.map PyData.int) = some ns := by
    induction ns with
    | nil => rfl
    | cons n ns ih => simp only [List.map_cons, intsD, ih, Option.map_some]
  simp only [gSum, this]
theorem wr_len (ts : Tn) : ((wr ts).length : Int) = (ts.map fun p => (p.1 : Int) * (p.2.length : Int)).sum := by
  induction ts with
  | nil => rfl
  | cons p ts ih => simp only [wr, List.length_append, reps_len, List.map_cons, List.sum_cons, ← ih, Int.natCast_add, Int.natCast_mul]
def mulD : PyData → PyData
  | .tuple [.int m, .list r] => .int (m * (r.length : Int))
  | d => d
theorem length_sat (hl : ts.length ≤ 90000) (hr : ∀ p ∈ ts, p.2.length ≤ 90000) (q : Q (.sh (.int ((wr ts).length : Int))) B) : Sat (m_length [.sh (.list (tD ts))] B) Q := by
  unfold m_length
  refine sat_fn (by simp only [List.map_cons, List.map_nil, List.length_cons, List.length_nil, List.replicate, List.cons_append, List.nil_append, Nat.reduceAdd, Nat.reduceSub]; exact rfl) ?_
  repeat decreasing_trivial_pre_omega
  refine sat_compM mulD ?_
  repeat decreasing_trivial_pre_omega
  refine ⟨by rw [List.length_map]; exact sz (by omega), ?_, ?_⟩
  · intro d hd
    obtain ⟨p, hs, rfl⟩ := List.mem_map.mp hd
    have := hr p hs
    refine ⟨_, rfl, ?_⟩
    repeat (first | (with_reducible refine r2 (gMul_r (by rw [List.length_map]; omega)) ?_) | decreasing_trivial_pre_omega)
    exact ⟨by trivial, by trivial⟩
  · repeat decreasing_trivial_pre_omega
    have e : (tD ts).map mulD = (ts.map fun p => (p.1 : Int) * (p.2.length : Int)).map PyData.int := by
      simp [tD, mulD]
    rw [e]
    refine ra (sum_ints _) ?_
    rw [← wr_len]
    repeat decreasing_trivial_pre_omega
    exact q
/-- the step at a place -/
theorem step_at_sat {k : Nat} {s : Sp1} (hr : ∀ p ∈ ts, p.2 ≠ [] ∧ p.2.length ≤ 90000) (h : (wr ts)[k]? = some s) (q : Q (.sh s.d) B) : Sat (m_step_at [.sh (.list (tD ts)), .sh (.int (k : Int))] B) Q := by
  unfold m_step_at
  refine sat_fn (by simp only [List.map_cons, List.map_nil, List.length_cons, List.length_nil, List.replicate, List.cons_append, List.nil_append, Nat.reduceAdd, Nat.reduceSub]; exact rfl) ?_
  repeat (first | (with_reducible refine is_number_sat ?_) | decreasing_trivial_pre_omega)
  rw [decide_eq_true (show (0 : Int) ≤ (k : Int) by omega)]
  refine ⟨fun _ => ?_, (fun z => nomatch z)⟩
  repeat decreasing_trivial_pre_omega
  refine sat_for (fun i ρ B' => B' = B ∧ ∃ (j : Nat) (x3 x4 : Option EV), ρ = [some (.sh (.list (tD ts))), some (.sh (.int (k : Int))), some (.sh (.int (j : Int))), x3, x4] ∧ (wr (ts.drop i))[j]? = some s) ?_
  repeat decreasing_trivial_pre_omega
  refine ⟨⟨by trivial, k, none, none, rfl, h⟩, fun i d ρ B' hd hI => ?_, fun ρ B' hI => ?_⟩
  · obtain ⟨rfl, j, x3, x4, rfl, hj⟩ := hI
    rw [List.getElem?_map] at hd
    obtain ⟨p, hp, rfl⟩ := Option.map_eq_some_iff.mp hd
    have hm := List.mem_of_getElem? hp
    have ⟨h1, h2⟩ := hr p hm
    have h0 : 0 < p.2.length := List.length_pos_iff.mpr h1
    refine ⟨_, rfl, ?_⟩
    have ed : ts.drop i = p :: ts.drop (i + 1) := by
      obtain ⟨hi, e⟩ := List.getElem?_eq_some_iff.mp hp
      rw [← e]; exact List.drop_eq_getElem_cons hi
    rw [ed, wr] at hj
    have mul : gMul (.int (p.1 : Int)) (.int ((rD p.2).length : Int)) = some (.sh (.int ((p.1 : Int) * (p.2.length : Int)))) := by
      rw [List.length_map]; exact gMul_r (by omega)
    unfold m_step_at_1
    repeat (first | (with_reducible refine r2 mul ?_) | decreasing_trivial_pre_omega)
    by_cases hlt : j < p.1 * p.2.length
    · have c1 : (j : Int) < (p.1 : Int) * (p.2.length : Int) := by rw [← Int.natCast_mul]; omega
      rw [decide_eq_true c1]
      refine ⟨fun _ => ?_, (fun z => nomatch z)⟩
      rw [List.getElem?_append_left (by rw [reps_len]; exact hlt), reps_at _ _ _ hlt] at hj
      have md : gMod (.int (j : Int)) (.int ((rD p.2).length : Int)) = some (.sh (.int ((j % p.2.length : Nat) : Int))) := by
        rw [List.length_map, gMod_int (by omega)]; rfl
      have ix : gIx (.list (rD p.2)) (.int ((j % p.2.length : Nat) : Int)) = some (.sh s.d) := gIx_nat (by rw [List.getElem?_map, hj]; rfl)
      repeat (first | (with_reducible refine r2 md ?_) | (with_reducible refine r2 ix ?_) | decreasing_trivial_pre_omega)
      exact q
    · have c1 : ¬ (j : Int) < (p.1 : Int) * (p.2.length : Int) := by rw [← Int.natCast_mul]; omega
      rw [decide_eq_false c1]
      refine ⟨(fun z => nomatch z), fun _ => ?_⟩
      rw [List.getElem?_append_right (by rw [reps_len]; omega), reps_len] at hj
      repeat (first | (with_reducible refine r2 mul ?_) | decreasing_trivial_pre_omega)
      have : (j : Int) - (p.1 : Int) * (p.2.length : Int) = ((j - p.1 * p.2.length : Nat) : Int) := by rw [← Int.natCast_mul]; omega
      rw [this]
      exact ⟨by trivial, j - p.1 * p.2.length, _, _, rfl, hj⟩
  · obtain ⟨rfl, j, x3, x4, rfl, hj⟩ := hI
    rw [List.length_map, List.drop_length] at hj
    simp [wr] at hj
def strF (w : Row) (f : Nat) : PyData → PyData
  | .int k => ((w[f + k.toNat]?).map Sp1.d).getD .none
  | d => d
theorem strF_range (w : Row) (f n : Nat) (h : f + n ≤ w.length) : (rangeD 0 (n : Int)).map (strF w f) = rD ((w.drop f).take n) := by
  apply List.ext_getElem?
  intro i
  unfold rangeD
  rw [List.getElem?_map, List.getElem?_map, List.getElem?_map]
  by_cases hi : i < n
  · have : i < ((n : Int) - 0).toNat := by omega
    rw [List.getElem?_range this, List.getElem?_take, if_pos hi, List.getElem?_drop]
    have h1 : f + i < w.length := by omega
    simp only [Option.map_some, strF, Int.zero_add, Int.toNat_natCast, List.getElem?_eq_getElem h1, Option.getD_some]
  · rw [List.getElem?_eq_none (by simp; omega), List.getElem?_eq_none (by simp; omega)]
    rfl
theorem stretch_sat {f n : Nat} (hl : ts.length ≤ 90000) (hr : ∀ p ∈ ts, p.2 ≠ [] ∧ p.2.length ≤ 90000) (h : f + n ≤ (wr ts).length) (hn : n ≤ 1000) (q : Q (.ow (.list (rD (((wr ts).drop f).take n)))) B) : Sat (m_stretch [.sh (.list (tD ts)), .sh (.int (f : Int)), .sh (.int (n : Int))] B) Q := by
  unfold m_stretch
  refine sat_fn (by simp only [List.map_cons, List.map_nil, List.length_cons, List.length_nil, List.replicate, List.cons_append, List.nil_append, Nat.reduceAdd, Nat.reduceSub]; exact rfl) ?_
  repeat (first | (with_reducible refine is_number_sat ?_) | decreasing_trivial_pre_omega)
  rw [decide_eq_true (show (0 : Int) ≤ (f : Int) by omega)]
  refine ⟨fun _ => ?_, (fun z => nomatch z)⟩
  repeat (first | (with_reducible refine length_sat hl (fun p hp => (hr p hp).2) ?_) | decreasing_trivial_pre_omega)
  rw [decide_eq_false (show ¬ ((wr ts).length : Int) < (f : Int) + (n : Int) by omega)]
  refine ⟨(fun z => nomatch z), fun _ => ?_⟩
  repeat decreasing_trivial_pre_omega
  unfold m_stretch_1
  repeat decreasing_trivial_pre_omega
  refine sat_compM (strF (wr ts) f) ?_
  repeat decreasing_trivial_pre_omega
  have rg := rgN hn
  refine ⟨rg.1, rg.2, ?_, ?_, ?_⟩
  · rw [range_len]; exact sz (by omega)
  · intro d hd
    obtain ⟨k, hk⟩ := List.getElem?_of_mem hd
    obtain ⟨rfl, hlt⟩ := range_at hk
    have h1 : f + k < (wr ts).length := by omega
    have e : (f : Int) + (k : Int) = ((f + k : Nat) : Int) := by omega
    refine ⟨_, rfl, ?_⟩
    repeat decreasing_trivial_pre_omega
    rw [e]
    refine step_at_sat hr (List.getElem?_eq_getElem h1) ?_
    refine ⟨by trivial, ?_⟩
    simp only [strF, Int.toNat_natCast, List.getElem?_eq_getElem h1, Option.map_some, Option.getD_some, data_sh]
  · rw [strF_range _ _ _ h]
    repeat decreasing_trivial_pre_omega
    exact q
theorem copied_sat (hl : ts.length ≤ 90000) (q : Q (.ow (.list (tD ts))) B) : Sat (m_copied [.sh (.list (tD ts))] B) Q := by
  unfold m_copied
  refine sat_fn (by simp only [List.map_cons, List.map_nil, List.length_cons, List.length_nil, List.replicate, List.cons_append, List.nil_append, Nat.reduceAdd, Nat.reduceSub]; exact rfl) ?_
  repeat decreasing_trivial_pre_omega
  refine sat_compM id ?_
  repeat decreasing_trivial_pre_omega
  refine ⟨by rw [List.length_map]; exact sz (by omega), ?_, ?_⟩
  · intro d hd
    obtain ⟨p, hs, rfl⟩ := List.mem_map.mp hd
    refine ⟨_, rfl, ?_⟩
    repeat (first | (with_reducible refine ra (show gList [.list (rD p.2)] = some (.ow (.list (rD p.2))) from rfl) ?_) | decreasing_trivial_pre_omega)
    exact ⟨by trivial, by trivial⟩
  · rw [List.map_id]
    repeat decreasing_trivial_pre_omega
    exact q
theorem joined_sat (ht : ts ≠ []) (hu : us ≠ []) (hp : TPath a ts b) (hp' : TPath b us c) (hl : ts.length ≤ 40000) (hl' : us.length ≤ 40000) (q : Q (.ow (.list (tD (ts ++ us)))) B) : Sat (m_joined [.sh (.list (tD ts)), .sh (.list (tD us))] B) Q := by
  unfold m_joined
  refine sat_fn (by simp only [List.map_cons, List.map_nil, List.length_cons, List.length_nil, List.replicate, List.cons_append, List.nil_append, Nat.reduceAdd, Nat.reduceSub]; exact rfl) ?_
  repeat (first | (with_reducible refine train_ends_sat ht hp ?_) | (with_reducible refine train_ends_sat hu hp' ?_) | (with_reducible refine Mr.r2 (show gIx (.tuple [.str a, .str b]) (.int 1) = some (.sh (.str b)) from rfl) ?_) | (with_reducible refine Mr.r2 (show gIx (.tuple [.str b, .str c]) (.int 0) = some (.sh (.str b)) from rfl) ?_) | decreasing_trivial_pre_omega)
  rw [show (b == b) = true by simp]
  refine ⟨(fun z => nomatch z), fun _ => ?_⟩
  repeat decreasing_trivial_pre_omega
  unfold m_joined_1
  repeat (first | (with_reducible refine copied_sat (by omega) ?_) | (with_reducible refine r2 (gAdd_list (by rw [List.length_map, List.length_map]; exact sz (by omega))) ?_) | decreasing_trivial_pre_omega)
  rw [tD, List.map_append] at q
  exact q
end
end Mr
namespace Mr
open PySem PySem.Spec PyProof.Rows L2
variable [Wd]
local macro_rules | `(tactic| decreasing_trivial_pre_omega) => `(tactic| (first | (with_reducible refine sat_seq ?_) | (with_reducible refine seqK_nx ?_) | (with_reducible refine seqK_rt ?_) | (with_reducible refine forK_nx ?_) | (with_reducible refine forK_rt ?_) | (with_reducible refine fnK_rt ?_) | (with_reducible refine frzK_nx ?_) | (with_reducible refine sat_setS ?_) | (with_reducible refine sat_set ?_) | (with_reducible refine sat_unp ?_) | (with_reducible refine sat_sif ?_) | (with_reducible refine sat_ret ?_) | (with_reducible refine sat_skip ?_) | (with_reducible refine sat_expr ?_) | (with_reducible refine sat_par2 ?_) | (with_reducible refine sat_par3 ?_) | (with_reducible refine sat_frz ?_) | (with_reducible refine sat_frzA ?_) | (with_reducible refine sat_c ?_) | (with_reducible refine sat_bin ?_) | (with_reducible refine sat_un ?_) | (with_reducible refine sat_cb ?_) | (with_reducible refine sat_call ?_) | (with_reducible refine sat_cons ?_) | (with_reducible refine sat_nil ?_) | (with_reducible refine sat_tb ?_) | (with_reducible refine sat_tv ?_) | (with_reducible refine sat_tn ?_) | (with_reducible refine sat_ts ?_) | (with_reducible refine sat_to ?_) | (with_reducible refine sat_ta ?_) | (with_reducible refine sat_if' ?_) | (with_reducible refine sat_and ?_) | (with_reducible refine sat_or ?_) | (with_reducible refine sat_not ?_) | (with_reducible refine sat_tup ?_) | (with_reducible refine sat_lst ?_) | (with_reducible refine sat_sl ?_) | (with_reducible refine sat_oNone ?_) | (with_reducible refine sat_oSome ?_) | (with_reducible refine sat_scal ?_) | (with_reducible refine sat_iv ?_) | (with_reducible refine sat_ir ?_) | (with_reducible refine sat_lr1 ?_) | (with_reducible refine sat_lr2 ?_) | ((with_reducible refine sat_var (d := ?_) ?h0 ?_); (case h0 => exact rfl)) | ((with_reducible refine sat_varB ?_ ?_); exact rfl) | ((with_reducible refine sat_retO (d := ?_) ?h0 ?_); (case h0 => exact rfl)) | ((with_reducible refine sat_retS (d := ?_) ?h0 ?_); (case h0 => exact rfl)) | ((with_reducible refine sat_ixO (ds := ?_) ?h0 ?_); (case h0 => exact rfl)) | ((with_reducible refine sat_ixS (d := ?_) ?h0 ?_); (case h0 => exact rfl)) | ((with_reducible refine sat_app (ds := ?_) ?h0 ?_); (case h0 => exact rfl)) | ((with_reducible refine sat_ext (ds := ?_) ?h0 ?_); (case h0 => exact rfl)) | ((with_reducible refine sat_aug (n := ?_) ?h0 ?_); (case h0 => exact rfl)) | (with_reducible refine g2_ss ?_) | (with_reducible refine g2_so ?_) | (with_reducible refine g2_os ?_) | (with_reducible refine g2_oo ?_) | (with_reducible refine g1_s ?_) | (with_reducible refine g1_o ?_) | (with_reducible refine ga_1 ?_) | (with_reducible refine ga_2 ?_) | (with_reducible refine ga_3 ?_) | (with_reducible refine r2 gAdd_int ?_) | (with_reducible refine r2 gSub_int ?_) | (with_reducible refine r2 gEq_int ?_) | (with_reducible refine r2 gNe_int ?_) | (with_reducible refine r2 gLt_int ?_) | (with_reducible refine r2 gLe_int ?_) | (with_reducible refine r2 gGt_int ?_) | (with_reducible refine r2 gGe_int ?_) | (with_reducible refine r2 gEq_str ?_) | (with_reducible refine r2 gNe_str ?_) | (with_reducible refine r2 gLt_str ?_) | (with_reducible refine ra gLen_list ?_) | (with_reducible refine ra gInt_int ?_) | (with_reducible refine ra gMin_int ?_) | (with_reducible refine ra gMax_int ?_) | (with_reducible refine ra gMin_str ?_) | (with_reducible refine ra gMax_str ?_) | (with_reducible refine r1 gNeg_int ?_) | ((with_reducible refine ds_and (ds := ?_) ?h0 ?h1 ?_); (case h0 => exact rfl); (case h1 => exact rfl)) | ((with_reducible refine len_and ?_ ?_); exact rfl) | ((with_reducible refine scal_and ?_ ?_); exact rfl) | (with_reducible refine ⟨_, _, rfl, rfl, ?_⟩) | (with_reducible refine ⟨_, rfl, ?_⟩) | ((with_reducible refine lt_and ?_ ?_); exact rfl) | ((with_reducible refine lt2_and ?_ ?_); exact rfl) | ((with_reducible refine lt3_and ?_ ?_); exact rfl) | (simp only [List.set_cons_zero, List.set_cons_succ, share_sh, share_ow, share_bg, data_sh, data_ow, frzE_nil, frzE_cons, frz1_z, frz1_zs, frz1_s, wipeE_nil, wipeE_cons])))
/-! dicts of carts -/
structure Ca where
  x : Str
  y : Str
  t : Bool
deriving DecidableEq
abbrev Ca.d (c : Ca) : PyData := cD c.x c.y c.t
abbrev Sp1.k (s : Sp1) : Ca := ⟨s.x, s.y, s.t⟩
theorem ca_key (c c' : Ca) : keyN c.d = keyN c'.d ↔ c = c' := by
  obtain ⟨x, y, t⟩ := c
  obtain ⟨x', y', t'⟩ := c'
  cases t <;> cases t' <;> simp [keyN, keyNs]
theorem ca_T (c : Ca) : (keyT c.d).isSome = true := by
  obtain ⟨x, y, t⟩ := c
  have : ((NestedKey.tup [.text x, .text y, .num (if t = true then 1 else 0)]).depth ≤ 8) := by
    simp [NestedKey.depth, NestedKey.depthAll]
  simp only [keyT, keyN, keyNs]
  rw [if_pos this]
  rfl
abbrev Cd := List (Ca × Int)
abbrev dE (p : Ca × Int) : PyData × PyData := (p.1.d, .int p.2)
abbrev dD (d : Cd) : List (PyData × PyData) := d.map dE
def gt (d : Cd) (c : Ca) : Option Int := (d.find? fun e => decide (e.1 = c)).map (·.2)
def pt (d : Cd) (c : Ca) (v : Int) : Cd := if (gt d c).isSome then d.map (fun e => if e.1 = c then (e.1, v) else e) else d ++ [(c, v)]
theorem gt_D (d : Cd) (c : Ca) : getDn (dD d) c.d = (gt d c).map PyData.int := by
  unfold getDn gt
  induction d with
  | nil => rfl
  | cons e d ih =>
    by_cases h : e.1 = c
    · rw [dD, List.map_cons, List.find?_cons_of_pos (by simp [h]), List.find?_cons_of_pos (by simp [h])]
      rfl
    · rw [dD, List.map_cons, List.find?_cons_of_neg (by simpa using fun z => h ((ca_key _ _).mp z)), List.find?_cons_of_neg (by simp [h])]
      exact ih
theorem pt_D (d : Cd) (c : Ca) (v : Int) : putDn (dD d) c.d (.int v) = dD (pt d c v) := by
  unfold putDn pt
  rw [gt_D, Option.isSome_map]
  by_cases h : (gt d c).isSome = true
  · rw [if_pos h, if_pos h, List.map_map, dD, List.map_map]
    refine List.map_congr_left fun e he => ?_
    by_cases h : e.1 = c
    · simp [h]
    · have : ¬ keyN e.1.d = keyN c.d := fun z => h ((ca_key _ _).mp z)
      simp [h, this]
  · rw [if_neg h, if_neg h]
    simp [dD]
theorem keys_D (d : Cd) : keysT (dD d) = true := by
  simp only [keysT, List.all_eq_true, List.mem_map]
  rintro _ ⟨p, _, rfl⟩
  exact ca_T p.1
theorem gt_mem {d : Cd} {c : Ca} : (gt d c).isSome = true ↔ c ∈ d.map (·.1) := by
  unfold gt
  rw [Option.isSome_map, List.find?_isSome]
  simp only [decide_eq_true_eq, List.mem_map]
theorem gt_of {d : Cd} (h : (d.map (·.1)).Nodup) {c : Ca} {v : Int} (m : (c, v) ∈ d) : gt d c = some v := by
  unfold gt
  induction d with
  | nil => cases m
  | cons e d ih =>
    rw [List.map_cons, List.nodup_cons] at h
    rcases List.mem_cons.mp m with rfl | m
    · rw [List.find?_cons_of_pos (by simp)]
      rfl
    · have : e.1 ≠ c := fun z => h.1 (z ▸ List.mem_map.mpr ⟨_, m, rfl⟩)
      rw [List.find?_cons_of_neg (by simpa using this)]
      exact ih h.2 m
/-- a dict that holds the numbers of f, where they are not 0 -/
structure Rep (f : Ca → Int) (d : Cd) : Prop where
  nd : (d.map (·.1)).Nodup
  at_ : ∀ c, gt d c = if f c = 0 then none else some (f c)
theorem Rep.nil : Rep (fun _ => 0) [] := ⟨List.nodup_nil, fun _ => rfl⟩
theorem Rep.congr {f g : Ca → Int} {d : Cd} (r : Rep f d) (h : ∀ c, f c = g c) : Rep g d := by
  have : f = g := funext h
  exact this ▸ r
theorem Rep.put {f : Ca → Int} {d : Cd} (r : Rep f d) (c : Ca) {v : Int} (hv : v ≠ 0) : Rep (fun z => if z = c then v else f z) (pt d c v) := by
  unfold pt
  by_cases h : (gt d c).isSome = true
  · rw [if_pos h]
    have e : (d.map fun e => if e.1 = c then (e.1, v) else e).map (·.1) = d.map (·.1) := by
      rw [List.map_map]
      refine List.map_congr_left fun e _ => ?_
      simp only [Function.comp]
      split <;> rfl
    refine ⟨by rw [e]; exact r.nd, fun z => ?_⟩
    have key : gt (d.map fun e => if e.1 = c then (e.1, v) else e) z = if z = c then (gt d c).map (fun _ => v) else gt d z := by
      unfold gt
      clear e h r
      induction d with
      | nil => simp
      | cons e d ih =>
        rw [List.map_cons]
        by_cases ez : e.1 = z
        · rw [List.find?_cons_of_pos (by split <;> simp [ez])]
          by_cases zc : z = c
          · subst zc
            rw [if_pos rfl, List.find?_cons_of_pos (by simp [ez])]
            simp [ez]
          · rw [if_neg zc, List.find?_cons_of_pos (by simp [ez])]
            have : ¬ e.1 = c := fun q => zc (ez.symm.trans q)
            simp [this]
        · rw [List.find?_cons_of_neg (by split <;> simpa using ez), ih]
          by_cases zc : z = c
          · subst zc
            rw [if_pos rfl, if_pos rfl, List.find?_cons_of_neg (by simpa using ez)]
          · rw [if_neg zc, if_neg zc, List.find?_cons_of_neg (by simpa using ez)]
    rw [key]
    by_cases zc : z = c
    · obtain ⟨w, hw⟩ := Option.isSome_iff_exists.mp h
      simp [zc, hw, hv]
    · simp only [zc, if_false]; exact r.at_ z
  · rw [if_neg h]
    have hc : c ∉ d.map (·.1) := fun z => h (gt_mem.mpr z)
    refine ⟨?_, fun z => ?_⟩
    · rw [List.map_append, List.nodup_append]
      refine ⟨r.nd, by simp, ?_⟩
      intro a ha b hb e
      rw [List.map_cons, List.map_nil, List.mem_singleton] at hb
      exact hc (by rw [e, hb] at ha; exact ha)
    · have := r.at_ z
      unfold gt at this ⊢
      rw [List.find?_append]
      by_cases zc : z = c
      · subst zc
        have hn : d.find? (fun e => decide (e.1 = z)) = none := by
          rw [List.find?_eq_none]
          intro e he
          simpa using fun q => hc (List.mem_map.mpr ⟨e, he, q⟩)
        rw [hn]
        simp [hv]
      · have : (d.find? (fun e => decide (e.1 = z))).or ([(c, v)].find? fun e => decide (e.1 = z)) = d.find? (fun e => decide (e.1 = z)) := by
          rw [List.find?_cons_of_neg (by simpa using fun q => zc q.symm)]
          simp
        rw [this, if_neg zc]
        assumption
theorem Rep.get {f : Ca → Int} {d : Cd} (r : Rep f d) (c : Ca) : (gt d c).getD 0 = f c := by
  rw [r.at_]
  by_cases h : f c = 0
  · rw [if_pos h, h]; rfl
  · rw [if_neg h]; rfl
theorem Rep.mem {f : Ca → Int} {d : Cd} (r : Rep f d) (c : Ca) : c ∈ d.map (·.1) ↔ f c ≠ 0 := by
  rw [← gt_mem, r.at_]
  by_cases h : f c = 0 <;> simp [h]
theorem Rep.val {f : Ca → Int} {d : Cd} (r : Rep f d) {e : Ca × Int} (h : e ∈ d) : e.2 = f e.1 ∧ f e.1 ≠ 0 := by
  have h1 := gt_of r.nd (c := e.1) (v := e.2) h
  rw [r.at_] at h1
  by_cases z : f e.1 = 0
  · rw [if_pos z] at h1; cases h1
  · rw [if_neg z] at h1; exact ⟨(Option.some.inj h1).symm, z⟩
theorem nodup_len : ∀ {xs ys : List Ca}, xs.Nodup → (∀ x ∈ xs, x ∈ ys) → xs.length ≤ ys.length
  | [], _, _, _ => Nat.zero_le _
  | x :: xs, ys, h, s => by
    rw [List.nodup_cons] at h
    have hx := s x (List.mem_cons_self ..)
    have := nodup_len (xs := xs) (ys := ys.erase x) h.2 fun z hz => (List.mem_erase_of_ne (fun e : z = x => h.1 (e ▸ hz))).mpr (s z (List.mem_cons_of_mem _ hz))
    rw [List.length_erase_of_mem hx] at this
    have : 0 < ys.length := List.length_pos_of_mem hx
    rw [List.length_cons]; omega
theorem Rep.len {f : Ca → Int} {d d' : Cd} (r : Rep f d) (r' : Rep f d') : d.length = d'.length := by
  have h1 := nodup_len r.nd fun c hc => (r'.mem c).mpr ((r.mem c).mp hc)
  have h2 := nodup_len r'.nd fun c hc => (r.mem c).mpr ((r'.mem c).mp hc)
  simp only [List.length_map] at h1 h2
  omega
theorem Rep.eq {f : Ca → Int} {d d' : Cd} (r : Rep f d) (r' : Rep f d') : gEqD (.dict (dD d)) (.dict (dD d')) = some (.sh (.bool true)) := by
  have sh : ∀ d : Cd, shapedD (dD d) = true := fun d => by
    simp only [shapedD, List.all_eq_true, List.mem_map]
    rintro _ ⟨p, _, rfl⟩
    rfl
  simp only [gEqD]
  rw [if_pos ⟨keys_D d, keys_D d', sh d, sh d'⟩]
  congr 3
  rw [Bool.and_eq_true]
  refine ⟨by simp [r.len r'], ?_⟩
  simp only [pairsIn, List.all_eq_true, List.mem_map]
  rintro _ ⟨p, hp, rfl⟩
  have z := (r.val hp).2
  dsimp only
  rw [gt_D, gt_D, r.at_, r'.at_, if_neg z]
  simp [PyData.eqv]
end Mr
namespace Mr
open PySem PySem.Spec PyProof.Rows L2
variable [Wd]
local macro_rules | `(tactic| decreasing_trivial_pre_omega) => `(tactic| (first | (with_reducible refine sat_seq ?_) | (with_reducible refine seqK_nx ?_) | (with_reducible refine seqK_rt ?_) | (with_reducible refine forK_nx ?_) | (with_reducible refine forK_rt ?_) | (with_reducible refine fnK_rt ?_) | (with_reducible refine frzK_nx ?_) | (with_reducible refine sat_setS ?_) | (with_reducible refine sat_set ?_) | (with_reducible refine sat_unp ?_) | (with_reducible refine sat_sif ?_) | (with_reducible refine sat_ret ?_) | (with_reducible refine sat_skip ?_) | (with_reducible refine sat_expr ?_) | (with_reducible refine sat_par2 ?_) | (with_reducible refine sat_par3 ?_) | (with_reducible refine sat_frz ?_) | (with_reducible refine sat_frzA ?_) | (with_reducible refine sat_c ?_) | (with_reducible refine sat_bin ?_) | (with_reducible refine sat_un ?_) | (with_reducible refine sat_cb ?_) | (with_reducible refine sat_call ?_) | (with_reducible refine sat_cons ?_) | (with_reducible refine sat_nil ?_) | (with_reducible refine sat_tb ?_) | (with_reducible refine sat_tv ?_) | (with_reducible refine sat_tn ?_) | (with_reducible refine sat_ts ?_) | (with_reducible refine sat_to ?_) | (with_reducible refine sat_ta ?_) | (with_reducible refine sat_if' ?_) | (with_reducible refine sat_and ?_) | (with_reducible refine sat_or ?_) | (with_reducible refine sat_not ?_) | (with_reducible refine sat_tup ?_) | (with_reducible refine sat_lst ?_) | (with_reducible refine sat_sl ?_) | (with_reducible refine sat_oNone ?_) | (with_reducible refine sat_oSome ?_) | (with_reducible refine sat_scal ?_) | (with_reducible refine sat_iv ?_) | (with_reducible refine sat_ir ?_) | (with_reducible refine sat_lr1 ?_) | (with_reducible refine sat_lr2 ?_) | ((with_reducible refine sat_var (d := ?_) ?h0 ?_); (case h0 => exact rfl)) | ((with_reducible refine sat_varB ?_ ?_); exact rfl) | ((with_reducible refine sat_retO (d := ?_) ?h0 ?_); (case h0 => exact rfl)) | ((with_reducible refine sat_retS (d := ?_) ?h0 ?_); (case h0 => exact rfl)) | ((with_reducible refine sat_ixO (ds := ?_) ?h0 ?_); (case h0 => exact rfl)) | ((with_reducible refine sat_ixS (d := ?_) ?h0 ?_); (case h0 => exact rfl)) | ((with_reducible refine sat_app (ds := ?_) ?h0 ?_); (case h0 => exact rfl)) | ((with_reducible refine sat_ext (ds := ?_) ?h0 ?_); (case h0 => exact rfl)) | ((with_reducible refine sat_aug (n := ?_) ?h0 ?_); (case h0 => exact rfl)) | (with_reducible refine g2_ss ?_) | (with_reducible refine g2_so ?_) | (with_reducible refine g2_os ?_) | (with_reducible refine g2_oo ?_) | (with_reducible refine g1_s ?_) | (with_reducible refine g1_o ?_) | (with_reducible refine ga_1 ?_) | (with_reducible refine ga_2 ?_) | (with_reducible refine ga_3 ?_) | (with_reducible refine r2 gAdd_int ?_) | (with_reducible refine r2 gSub_int ?_) | (with_reducible refine r2 gEq_int ?_) | (with_reducible refine r2 gNe_int ?_) | (with_reducible refine r2 gLt_int ?_) | (with_reducible refine r2 gLe_int ?_) | (with_reducible refine r2 gGt_int ?_) | (with_reducible refine r2 gGe_int ?_) | (with_reducible refine r2 gEq_str ?_) | (with_reducible refine r2 gNe_str ?_) | (with_reducible refine r2 gLt_str ?_) | (with_reducible refine ra gLen_list ?_) | (with_reducible refine ra gInt_int ?_) | (with_reducible refine ra gMin_int ?_) | (with_reducible refine ra gMax_int ?_) | (with_reducible refine ra gMin_str ?_) | (with_reducible refine ra gMax_str ?_) | (with_reducible refine r1 gNeg_int ?_) | ((with_reducible refine ds_and (ds := ?_) ?h0 ?h1 ?_); (case h0 => exact rfl); (case h1 => exact rfl)) | ((with_reducible refine len_and ?_ ?_); exact rfl) | ((with_reducible refine scal_and ?_ ?_); exact rfl) | (with_reducible refine ⟨_, _, rfl, rfl, ?_⟩) | (with_reducible refine ⟨_, rfl, ?_⟩) | ((with_reducible refine lt_and ?_ ?_); exact rfl) | ((with_reducible refine lt2_and ?_ ?_); exact rfl) | ((with_reducible refine lt3_and ?_ ?_); exact rfl) | (simp only [List.set_cons_zero, List.set_cons_succ, share_sh, share_ow, share_bg, data_sh, data_ow, frzE_nil, frzE_cons, frz1_z, frz1_zs, frz1_s, wipeE_nil, wipeE_cons])))
theorem ca_alike (c c' : Ca) : PySem.W.alike c.d c'.d = true := rfl
theorem ca_sortOk {L : List Ca} (hl : L.length ≤ sizeLine) : sortOk (L.map Ca.d) = true := by
  simp only [sortOk, Bool.and_eq_true, Bool.or_eq_true, decide_eq_true_eq, allAlikeB, List.all_eq_true, List.mem_map]
  refine ⟨⟨⟨?_, .inl ?_⟩, ?_⟩, by rw [List.length_map]; exact hl⟩
  · rintro _ ⟨c, _, rfl⟩ _ ⟨c', _, rfl⟩
    exact ca_alike c c'
  · rintro _ ⟨c, _, rfl⟩
    rfl
  · rintro _ ⟨c, _, rfl⟩
    simp [PyData.depth, PyData.depthAll]
def unC : PyData → Ca
  | .tuple [.str x, .str y, .bool t] => ⟨x, y, t⟩
  | _ => ⟨"", "", false⟩
theorem sort_ca (L : List Ca) : ∃ L' : List Ca, (L.map Ca.d).mergeSort leD = L'.map Ca.d ∧ L'.Perm L := by
  have p : ((L.map Ca.d).mergeSort leD).Perm (L.map Ca.d) := List.mergeSort_perm ..
  refine ⟨((L.map Ca.d).mergeSort leD).map unC, ?_, ?_⟩
  · rw [List.map_map]
    have : ∀ d ∈ (L.map Ca.d).mergeSort leD, (Ca.d ∘ unC) d = d := fun d hd => by
      obtain ⟨c, _, rfl⟩ := List.mem_map.mp (p.mem_iff.mp hd)
      rfl
    rw [List.map_congr_left this, List.map_id']
  · have := p.map unC
    rw [List.map_map] at this
    rwa [show (unC ∘ Ca.d) = id from rfl, List.map_id] at this
section
variable {ρ : Env} {B : Bag} {Q : EV → Bag → Prop} {QS : Flow → Bag → Prop} {r : Row} {ts us : Tn} {a b c a' c' : Str} {m : Nat} {i : Nat} {ds : List (PyData × PyData)}
theorem sat_dix {mk : EM} (hi : dsOf ρ i = some ds) (h : Sat (mk ρ B) fun ek B1 => ∃ dk d, ek = .sh dk ∧ ((keyT dk).isSome = true ∧ keysT ds = true) ∧ getDn ds dk = some d ∧ Q (.sh d) B1) : Sat (eDIxV i mk ρ B) Q := by
  unfold eDIxV
  rw [sat_bind]
  refine sat_mono h fun ek B1 ⟨dk, d, h2, h4, h5, h6⟩ => ?_
  subst h2
  simp only [hi, if_pos h4, h5]
  exact sat_ok h6
theorem sat_dcompL {f : PyData → Env → Option Env} {mk mv : EM} {Q : List (PyData × PyData) → Bag → Prop} (I : Nat → List (PyData × PyData) → Bag → Prop) (ρ : Env) : ∀ (ds : List PyData) (n : Nat) (acc : List (PyData × PyData)) (B : Bag), I n acc B →
    (∀ k d acc B, (ds[k]?) = some d → I (n + k) acc B → ∃ ρ1, f d ρ = some ρ1 ∧ Sat (mk ρ1 B) fun ek B2 => Sat (mv ρ1 B2) fun ev B3 => ∃ dk x, ek = .sh dk ∧ ev.data = some x ∧ ((keyT dk).isSome = true ∧ acc.length < sizeLine) ∧ I (n + k + 1) (putDn acc dk x) B3) →
    (∀ acc B, I (n + ds.length) acc B → Q acc B) → Sat (dcompL f tYesM mk mv ds ρ acc B) Q
  | [], n, acc, B, h0, _, hd => sat_ok (hd acc B h0)
  | d :: ds, n, acc, B, h0, hs, hd => by
    obtain ⟨ρ1, e1, st⟩ := hs 0 d acc B rfl h0
    unfold dcompL
    simp only [e1]
    rw [sat_bind]
    refine sat_ok (a := true) (B := B) ?_
    rw [if_pos rfl, sat_bind]
    refine sat_mono st fun ek B2 st2 => ?_
    rw [sat_bind]
    refine sat_mono st2 fun ev B3 ⟨dk, x, h1, h2, h3, h4⟩ => ?_
    subst h1
    simp only [h2, if_pos h3]
    exact sat_dcompL I ρ ds (n + 1) _ B3 h4
      (fun k d' acc B hk hI => by
        have := hs (k + 1) d' acc B hk (by rw [show n + (k + 1) = n + 1 + k by omega]; exact hI)
        rw [show n + (k + 1) + 1 = n + 1 + k + 1 by omega] at this
        exact this)
      (fun acc B hI => hd acc B (by rw [List.length_cons, show n + (ds.length + 1) = n + 1 + ds.length by omega]; exact hI))
theorem sat_dcomp {vs : List Nat} {mi : IM} {f : PyData → Env → Option Env} {mk mv : EM} (h : Sat (mi ρ B) fun ds B1 => Sat (dcompL f tYesM mk mv ds (wipeE ρ vs) [] B1) fun acc B2 => Q (.ow (.dict acc)) B2) : Sat (eDComp vs mi f tYesM mk mv ρ B) Q := by
  unfold eDComp
  rw [sat_bind]
  refine sat_mono h fun ds B1 h1 => ?_
  rw [sat_bind]
  exact sat_mono h1 fun acc B2 q => sat_ok q
/-! how many of a cart -/
def cnt (r : Row) (c : Ca) : Int := ((r.map Sp1.k).count c : Int)
theorem Rep.small {f : Ca → Int} {d : Cd} (r : Rep f d) {U : List Ca} (h : ∀ c, f c ≠ 0 → c ∈ U) : d.length ≤ U.length := by
  have := nodup_len r.nd fun c hc => h c ((r.mem c).mp hc)
  rwa [List.length_map] at this
theorem get_D {f : Ca → Int} {d : Cd} (r : Rep f d) (c : Ca) : (getDn (dD d) c.d).getD (.int 0) = .int (f c) := by
  rw [gt_D, ← r.get c]
  cases gt d c <;> rfl
theorem carts_in_sat (hl : r.length ≤ 90000) (q : ∀ d, Rep (cnt r) d → Q (.ow (.dict (dD d))) B) : Sat (m_carts_in [.sh (.list (rD r))] B) Q := by
  have hz : r.length ≤ sizeLine := sz (by omega)
  have e1 : (rD r).map (fun d => match d with | .tuple [c, _] => c | d => d) = (r.map Sp1.k).map Ca.d := by
    rw [rD, List.map_map, List.map_map]; rfl
  obtain ⟨L, eL, pL⟩ := sort_ca (r.map Sp1.k)
  have lL : L.length = r.length := by rw [pL.length_eq, List.length_map]
  unfold m_carts_in
  refine sat_fn (by simp only [List.map_cons, List.map_nil, List.length_cons, List.length_nil, List.replicate, List.cons_append, List.nil_append, Nat.reduceAdd, Nat.reduceSub]; exact rfl) ?_
  repeat (first | (with_reducible refine sat_dn0 ?_) | decreasing_trivial_pre_omega)
  unfold m_carts_in_2
  repeat decreasing_trivial_pre_omega
  refine sat_for (fun i ρ B' => B' = B ∧ ∃ (d : Cd) (x2 : Option EV), ρ = [some (.sh (.list (rD r))), some (.ow (.dict (dD d))), x2, none] ∧ Rep (fun c => ((L.take i).count c : Int)) d) ?_
  repeat decreasing_trivial_pre_omega
  refine sat_compM (fun d => match d with | .tuple [c, _] => c | d => d) ?_
  repeat decreasing_trivial_pre_omega
  refine ⟨by rw [List.length_map]; exact hz, ?_, ?_⟩
  · intro d hd
    obtain ⟨s, _, rfl⟩ := List.mem_map.mp hd
    refine ⟨_, rfl, ?_⟩
    repeat (first | (with_reducible refine r2 (show gIx s.d (.int 0) = some (.sh s.c) from rfl) ?_) | decreasing_trivial_pre_omega)
    exact ⟨by trivial, by trivial⟩
  · rw [e1]
    repeat decreasing_trivial_pre_omega
    refine ra (show gSorted [.list ((r.map Sp1.k).map Ca.d)] = some (.ow (.list (L.map Ca.d))) by simp only [gSorted]; rw [if_pos (ca_sortOk (by rw [List.length_map]; exact hz)), eL]) ?_
    repeat decreasing_trivial_pre_omega
    refine ⟨⟨by trivial, [], none, rfl, Rep.nil.congr fun c => by simp⟩, fun i d ρ B' hd hI => ?_, fun ρ B' hI => ?_⟩
    · obtain ⟨rfl, dc, x2, rfl, rp⟩ := hI
      rw [List.getElem?_map] at hd
      obtain ⟨c, hc, rfl⟩ := Option.map_eq_some_iff.mp hd
      refine ⟨_, rfl, ?_⟩
      unfold m_carts_in_1
      refine sat_dput (ds := dD dc) rfl ?_
      refine sat_bin ?_
      refine sat_dget (ds := dD dc) rfl ?_
      repeat decreasing_trivial_pre_omega
      refine ⟨⟨ca_T c, keys_D dc⟩, ?_⟩
      rw [get_D rp]
      repeat decreasing_trivial_pre_omega
      refine ⟨⟨ca_T c, ?_⟩, ?_⟩
      · have := rp.small (U := L) fun z hz => by
          have : 0 < (L.take i).count z := by omega
          exact List.mem_of_mem_take (List.count_pos_iff.mp this)
        rw [List.length_map]
        exact Nat.lt_of_le_of_lt (Nat.le_trans this (Nat.le_of_eq lL)) (Nat.lt_of_le_of_lt hl (by rw [sizeLine_eq]; decide))
      · rw [pt_D]
        refine ⟨rfl, _, _, rfl, (rp.put c (by omega)).congr fun z => ?_⟩
        rw [List.take_add_one, hc, List.count_append]
        by_cases zc : z = c
        · subst zc; simp
        · have : ¬ c = z := fun h => zc h.symm
          simp [zc, this, List.count_cons]
    · obtain ⟨rfl, dc, x2, rfl, rp⟩ := hI
      repeat decreasing_trivial_pre_omega
      refine q _ (rp.congr fun c => ?_)
      rw [List.length_map, List.take_length]
      unfold cnt
      rw [pL.count_eq]
end
end Mr
namespace Mr
open PySem PySem.Spec PyProof.Rows L2
variable [Wd]
local macro_rules | `(tactic| decreasing_trivial_pre_omega) => `(tactic| (first | (with_reducible refine sat_seq ?_) | (with_reducible refine seqK_nx ?_) | (with_reducible refine seqK_rt ?_) | (with_reducible refine forK_nx ?_) | (with_reducible refine forK_rt ?_) | (with_reducible refine fnK_rt ?_) | (with_reducible refine frzK_nx ?_) | (with_reducible refine sat_setS ?_) | (with_reducible refine sat_set ?_) | (with_reducible refine sat_unp ?_) | (with_reducible refine sat_sif ?_) | (with_reducible refine sat_ret ?_) | (with_reducible refine sat_skip ?_) | (with_reducible refine sat_expr ?_) | (with_reducible refine sat_par2 ?_) | (with_reducible refine sat_par3 ?_) | (with_reducible refine sat_frz ?_) | (with_reducible refine sat_frzA ?_) | (with_reducible refine sat_c ?_) | (with_reducible refine sat_bin ?_) | (with_reducible refine sat_un ?_) | (with_reducible refine sat_cb ?_) | (with_reducible refine sat_call ?_) | (with_reducible refine sat_cons ?_) | (with_reducible refine sat_nil ?_) | (with_reducible refine sat_tb ?_) | (with_reducible refine sat_tv ?_) | (with_reducible refine sat_tn ?_) | (with_reducible refine sat_ts ?_) | (with_reducible refine sat_to ?_) | (with_reducible refine sat_ta ?_) | (with_reducible refine sat_if' ?_) | (with_reducible refine sat_and ?_) | (with_reducible refine sat_or ?_) | (with_reducible refine sat_not ?_) | (with_reducible refine sat_tup ?_) | (with_reducible refine sat_lst ?_) | (with_reducible refine sat_sl ?_) | (with_reducible refine sat_oNone ?_) | (with_reducible refine sat_oSome ?_) | (with_reducible refine sat_scal ?_) | (with_reducible refine sat_iv ?_) | (with_reducible refine sat_ir ?_) | (with_reducible refine sat_lr1 ?_) | (with_reducible refine sat_lr2 ?_) | ((with_reducible refine sat_var (d := ?_) ?h0 ?_); (case h0 => exact rfl)) | ((with_reducible refine sat_varB ?_ ?_); exact rfl) | ((with_reducible refine sat_retO (d := ?_) ?h0 ?_); (case h0 => exact rfl)) | ((with_reducible refine sat_retS (d := ?_) ?h0 ?_); (case h0 => exact rfl)) | ((with_reducible refine sat_ixO (ds := ?_) ?h0 ?_); (case h0 => exact rfl)) | ((with_reducible refine sat_ixS (d := ?_) ?h0 ?_); (case h0 => exact rfl)) | ((with_reducible refine sat_app (ds := ?_) ?h0 ?_); (case h0 => exact rfl)) | ((with_reducible refine sat_ext (ds := ?_) ?h0 ?_); (case h0 => exact rfl)) | ((with_reducible refine sat_aug (n := ?_) ?h0 ?_); (case h0 => exact rfl)) | (with_reducible refine g2_ss ?_) | (with_reducible refine g2_so ?_) | (with_reducible refine g2_os ?_) | (with_reducible refine g2_oo ?_) | (with_reducible refine g1_s ?_) | (with_reducible refine g1_o ?_) | (with_reducible refine ga_1 ?_) | (with_reducible refine ga_2 ?_) | (with_reducible refine ga_3 ?_) | (with_reducible refine r2 gAdd_int ?_) | (with_reducible refine r2 gSub_int ?_) | (with_reducible refine r2 gEq_int ?_) | (with_reducible refine r2 gNe_int ?_) | (with_reducible refine r2 gLt_int ?_) | (with_reducible refine r2 gLe_int ?_) | (with_reducible refine r2 gGt_int ?_) | (with_reducible refine r2 gGe_int ?_) | (with_reducible refine r2 gEq_str ?_) | (with_reducible refine r2 gNe_str ?_) | (with_reducible refine r2 gLt_str ?_) | (with_reducible refine ra gLen_list ?_) | (with_reducible refine ra gInt_int ?_) | (with_reducible refine ra gMin_int ?_) | (with_reducible refine ra gMax_int ?_) | (with_reducible refine ra gMin_str ?_) | (with_reducible refine ra gMax_str ?_) | (with_reducible refine r1 gNeg_int ?_) | ((with_reducible refine ds_and (ds := ?_) ?h0 ?h1 ?_); (case h0 => exact rfl); (case h1 => exact rfl)) | ((with_reducible refine len_and ?_ ?_); exact rfl) | ((with_reducible refine scal_and ?_ ?_); exact rfl) | (with_reducible refine ⟨_, _, rfl, rfl, ?_⟩) | (with_reducible refine ⟨_, rfl, ?_⟩) | ((with_reducible refine lt_and ?_ ?_); exact rfl) | ((with_reducible refine lt2_and ?_ ?_); exact rfl) | ((with_reducible refine lt3_and ?_ ?_); exact rfl) | (simp only [List.set_cons_zero, List.set_cons_succ, share_sh, share_ow, share_bg, data_sh, data_ow, frzE_nil, frzE_cons, frz1_z, frz1_zs, frz1_s, wipeE_nil, wipeE_cons])))
theorem cnt_append (r r' : Row) (c : Ca) : cnt (r ++ r') c = cnt r c + cnt r' c := by
  simp [cnt, List.map_append, List.count_append]
theorem cnt_nn (r : Row) (c : Ca) : 0 ≤ cnt r c := by unfold cnt; omega
theorem cnt_reps (m : Nat) (r : Row) (c : Ca) : cnt (reps m r) c = (m : Int) * cnt r c := by
  induction m with
  | zero => simp [cnt, reps]
  | succ m ih =>
    have : reps (m + 1) r = r ++ reps m r := by simp [reps, List.replicate_succ]
    rw [this, cnt_append, ih, Int.natCast_add, Int.add_mul]; omega
theorem cnt_mem {r : Row} {c : Ca} (h : cnt r c ≠ 0) : c ∈ r.map Sp1.k := by
  unfold cnt at h
  exact List.count_pos_iff.mp (by omega)
theorem cnt_le (r : Row) (c : Ca) : cnt r c ≤ r.length := by
  unfold cnt
  have := List.count_le_length (a := c) (l := r.map Sp1.k)
  rw [List.length_map] at this
  omega
def addS (m : Int) (d : Cd) (c : Ca) : Int := (d.map fun e => if e.1 = c then m * e.2 else 0).sum
theorem addS_all {m : Int} {d : Cd} (h : (d.map (·.1)).Nodup) (c : Ca) : addS m d c = m * (gt d c).getD 0 := by
  unfold addS
  induction d with
  | nil => simp [gt]
  | cons e d ih =>
    rw [List.map_cons, List.nodup_cons] at h
    rw [List.map_cons, List.sum_cons, ih h.2]
    unfold gt
    by_cases ec : e.1 = c
    · have hn : d.find? (fun e => decide (e.1 = c)) = none := by
        rw [List.find?_eq_none]
        intro z hz
        simpa using fun q => h.1 (List.mem_map.mpr ⟨z, hz, q.trans ec.symm⟩)
      rw [List.find?_cons_of_pos (by simpa using ec), hn, if_pos ec]
      simp
    · rw [List.find?_cons_of_neg (by simpa using ec), if_neg ec]
      simp
theorem addS_nn {m : Int} (hm : 0 ≤ m) {d : Cd} (h : ∀ e ∈ d, 0 ≤ e.2) (c : Ca) : 0 ≤ addS m d c := by
  unfold addS
  induction d with
  | nil => simp
  | cons e d ih =>
    rw [List.map_cons, List.sum_cons]
    have h1 := ih fun e he => h e (List.mem_cons_of_mem _ he)
    have h2 : 0 ≤ if e.1 = c then m * e.2 else 0 := by
      split
      · exact Int.mul_nonneg hm (h e (List.mem_cons_self ..))
      · omega
    omega
theorem addS_ne {m : Int} {d : Cd} {c : Ca} (h : addS m d c ≠ 0) : ∃ e ∈ d, e.1 = c := by
  unfold addS at h
  induction d with
  | nil => simp at h
  | cons e d ih =>
    by_cases ec : e.1 = c
    · exact ⟨e, by simp, ec⟩
    · rw [List.map_cons, List.sum_cons, if_neg ec, Int.zero_add] at h
      obtain ⟨z, hz, q⟩ := ih h
      exact ⟨z, by simp [hz], q⟩
theorem addS_snoc (m : Int) (d : Cd) (e : Ca × Int) (c : Ca) : addS m (d ++ [e]) c = addS m d c + if e.1 = c then m * e.2 else 0 := by
  simp [addS]
theorem wr_take {ts : Tn} {i : Nat} {p : Nat × Row} (h : ts[i]? = some p) (c : Ca) : cnt (wr (ts.take (i + 1))) c = cnt (wr (ts.take i)) c + (p.1 : Int) * cnt p.2 c := by
  rw [List.take_add_one, h, wr_append, cnt_append, show wr (some p).toList = reps p.1 p.2 ++ [] from rfl, List.append_nil, cnt_reps]
section
variable {ρ : Env} {B : Bag} {Q : EV → Bag → Prop} {QS : Flow → Bag → Prop} {r : Row} {ts us : Tn} {a b c a' c' : Str} {m : Nat} {i : Nat} {ds : List (PyData × PyData)}
theorem for_items {m : EM} {f : PyData → Env → Option Env} {body : SM} (h : Sat (m ρ B) fun e B1 => ∃ ds, e.data = some (.dict ds) ∧ keysT ds = true ∧ ∃ I : Nat → Env → Bag → Prop, I 0 ρ B1 ∧
    (∀ k d ρ' B', ((ds.map fun e => PyData.tuple [e.1, e.2])[k]?) = some d → I k ρ' B' → ∃ ρ1, f d ρ' = some ρ1 ∧ Sat (body ρ1 B') (ForK I (k + 1) QS)) ∧ ∀ ρ' B', I (ds.map fun e => PyData.tuple [e.1, e.2]).length ρ' B' → QS (.nx ρ') B') : Sat (sFor (iItemsD m) f body ρ B) QS := by
  obtain ⟨e, B1, he, ds, h1, h2, I, h3⟩ := sat_inv h
  refine sat_for I ?_
  refine sat_itemsD ?_
  rw [he]
  exact sat_ok ⟨ds, h1, h2, h3⟩
theorem carts_of_sat (hl : (ts.flatMap (·.2)).length ≤ 90000) (h0 : ∀ p ∈ ts, 0 < p.1) (hn : ts.length ≤ 90000) (q : ∀ d, Rep (cnt (wr ts)) d → Q (.ow (.dict (dD d))) B) : Sat (m_carts_of [.sh (.list (tD ts))] B) Q := by
  have hU : ∀ p ∈ ts, ∀ c : Ca, cnt p.2 c ≠ 0 → c ∈ (ts.flatMap (·.2)).map Sp1.k := fun p hp c hc => by
    obtain ⟨s, hs, rfl⟩ := List.mem_map.mp (cnt_mem hc)
    exact List.mem_map.mpr ⟨s, List.mem_flatMap.mpr ⟨p, hp, hs⟩, rfl⟩
  have hW : ∀ i c, cnt (wr (ts.take i)) c ≠ 0 → c ∈ (ts.flatMap (·.2)).map Sp1.k := fun i c hc => by
    obtain ⟨s, hs, rfl⟩ := List.mem_map.mp (cnt_mem hc)
    obtain ⟨p, hp, hs⟩ := wr_mem hs
    exact List.mem_map.mpr ⟨s, List.mem_flatMap.mpr ⟨p, List.mem_of_mem_take hp, hs⟩, rfl⟩
  have lr : ∀ p ∈ ts, p.2.length ≤ 90000 := fun p hp => Nat.le_trans (List.Sublist.length_le (by
    obtain ⟨t1, t2, rfl⟩ := List.append_of_mem hp
    rw [List.flatMap_append, List.flatMap_cons]
    exact (List.sublist_append_left ..).trans (List.sublist_append_right ..))) hl
  have small : ∀ {f : Ca → Int} {d : Cd}, Rep f d → (∀ c, f c ≠ 0 → c ∈ (ts.flatMap (·.2)).map Sp1.k) → d.length ≤ 90000 := fun r h => by
    have := r.small h
    rw [List.length_map] at this
    omega
  unfold m_carts_of
  refine sat_fn (by simp only [List.map_cons, List.map_nil, List.length_cons, List.length_nil, List.replicate, List.cons_append, List.nil_append, Nat.reduceAdd, Nat.reduceSub]; exact rfl) ?_
  repeat (first | (with_reducible refine sat_dn0 ?_) | decreasing_trivial_pre_omega)
  unfold m_carts_of_4
  repeat decreasing_trivial_pre_omega
  refine sat_for (fun i ρ B' => B' = B ∧ ∃ (d : Cd) (x2 x3 x4 x5 : Option EV), ρ = [some (.sh (.list (tD ts))), some (.ow (.dict (dD d))), x2, x3, x4, x5] ∧ Rep (cnt (wr (ts.take i))) d) ?_
  repeat decreasing_trivial_pre_omega
  refine ⟨⟨by trivial, [], _, _, _, _, rfl, Rep.nil⟩, fun i d ρ B' hd hI => ?_, fun ρ B' hI => ?_⟩
  · obtain ⟨rfl, dc, x2, x3, x4, x5, rfl, rp⟩ := hI
    rw [List.getElem?_map] at hd
    obtain ⟨p, hp, rfl⟩ := Option.map_eq_some_iff.mp hd
    have hm := List.mem_of_getElem? hp
    have m0 := h0 p hm
    refine ⟨_, rfl, ?_⟩
    unfold m_carts_of_2
    refine for_items ?_
    repeat (first | (with_reducible refine carts_in_sat (lr p hm) fun d' rd => ?_) | decreasing_trivial_pre_omega)
    refine ⟨keys_D d', fun j ρ B'' => B'' = B' ∧ ∃ (d : Cd) (x4 x5 : Option EV), ρ = [some (.sh (.list (tD ts))), some (.ow (.dict (dD d))), some (.sh (.int (p.1 : Int))), some (.sh (.list (rD p.2))), x4, x5] ∧ Rep (fun c => cnt (wr (ts.take i)) c + addS (p.1 : Int) (d'.take j) c) d, ?_, fun j d ρ B'' hd hI => ?_, fun ρ B'' hI => ?_⟩
    · exact ⟨by trivial, dc, _, _, rfl, rp.congr fun c => by simp [addS]⟩
    · obtain ⟨rfl, dj, y4, y5, rfl, rj⟩ := hI
      rw [List.getElem?_map, List.getElem?_map] at hd
      obtain ⟨e', he', rfl⟩ := Option.map_eq_some_iff.mp hd
      obtain ⟨e, he, rfl⟩ := Option.map_eq_some_iff.mp he'
      obtain ⟨v1, v2⟩ := rd.val (List.mem_of_getElem? he)
      have cn := cnt_nn p.2 e.1
      have cl := cnt_le p.2 e.1
      have ll := lr p hm
      have nn := addS_nn (m := (p.1 : Int)) (by omega) (d := d'.take j) (fun z hz => by rw [(rd.val (List.mem_of_mem_take hz)).1]; exact cnt_nn ..) e.1
      have wn := cnt_nn (wr (ts.take i)) e.1
      have pos : 0 < (p.1 : Int) * e.2 := Int.mul_pos (by omega) (by omega)
      refine ⟨_, rfl, ?_⟩
      unfold m_carts_of_1
      refine sat_dput (ds := dD dj) rfl ?_
      refine sat_bin ?_
      refine sat_dget (ds := dD dj) rfl ?_
      repeat decreasing_trivial_pre_omega
      refine ⟨⟨ca_T e.1, keys_D dj⟩, ?_⟩
      rw [get_D rj]
      repeat (first | (with_reducible refine r2 (gMul_r (by omega)) ?_) | decreasing_trivial_pre_omega)
      refine ⟨⟨ca_T e.1, ?_⟩, ?_⟩
      · have := small rj fun z hz => ?_
        · rw [List.length_map, sizeLine_eq]
          omega
        · by_cases q0 : cnt (wr (ts.take i)) z = 0
          · rw [q0, Int.zero_add] at hz
            obtain ⟨w, hw, rfl⟩ := addS_ne hz
            exact hU p hm _ (rd.val (List.mem_of_mem_take hw)).2
          · exact hW i z q0
      · rw [pt_D]
        refine ⟨rfl, _, _, _, rfl, (rj.put e.1 (by omega)).congr fun z => ?_⟩
        rw [List.take_add_one, he, show (some e).toList = [e] from rfl, addS_snoc]
        by_cases zc : z = e.1
        · subst zc; simp; omega
        · have : ¬ e.1 = z := fun h => zc h.symm
          simp [zc, this]
    · obtain ⟨rfl, dj, y4, y5, rfl, rj⟩ := hI
      refine ⟨rfl, _, _, _, _, _, rfl, rj.congr fun c => ?_⟩
      rw [wr_take hp, List.length_map, List.length_map, List.take_length, addS_all rd.nd, rd.get]
  · obtain ⟨rfl, dc, x2, x3, x4, x5, rfl, rp⟩ := hI
    rw [List.length_map, List.take_length] at rp
    obtain ⟨L, eL, pL⟩ := sort_ca (dc.map (·.1))
    have nL : L.Nodup := pL.nodup_iff.mpr rp.nd
    have mL : ∀ c, c ∈ L ↔ cnt (wr ts) c ≠ 0 := fun c => by rw [pL.mem_iff]; exact rp.mem c
    have sm := small rp fun c h => hW ts.length c (by rw [List.take_length]; exact h)
    have ek : (dD dc).map (·.1) = (dc.map (·.1)).map Ca.d := by simp [dD]
    repeat decreasing_trivial_pre_omega
    unfold m_carts_of_3
    repeat decreasing_trivial_pre_omega
    refine sat_dcomp ?_
    repeat decreasing_trivial_pre_omega
    refine ra (show gSortedD [.dict (dD dc)] = some (.ow (.list (L.map Ca.d))) by
      simp only [gSortedD]
      rw [ek, if_pos ⟨keys_D dc, ca_sortOk (by rw [List.length_map]; exact sz (by omega))⟩, eL]) ?_
    repeat decreasing_trivial_pre_omega
    refine sat_dcompL (fun i acc B2 => B2 = B' ∧ ∃ d : Cd, acc = dD d ∧ Rep (fun c => if c ∈ L.take i then cnt (wr ts) c else 0) d) _ _ 0 [] B' ⟨rfl, [], rfl, Rep.nil.congr fun c => by simp⟩ (fun k d acc B2 hd hI => ?_) (fun acc B2 hI => ?_)
    · obtain ⟨rfl, dc', rfl, rp'⟩ := hI
      rw [Nat.zero_add] at rp' ⊢
      rw [List.getElem?_map] at hd
      obtain ⟨c, hc, rfl⟩ := Option.map_eq_some_iff.mp hd
      have hcL : cnt (wr ts) c ≠ 0 := (mL c).mp (List.mem_of_getElem? hc)
      refine ⟨_, rfl, ?_⟩
      repeat decreasing_trivial_pre_omega
      refine sat_dix (ds := dD dc) rfl ?_
      repeat decreasing_trivial_pre_omega
      refine ⟨_, _, rfl, ⟨ca_T c, keys_D dc⟩, (show getDn (dD dc) c.d = some (.int (cnt (wr ts) c)) by rw [gt_D, rp.at_, if_neg hcL]; rfl), ?_⟩
      refine ⟨_, _, rfl, rfl, ⟨ca_T c, ?_⟩, ?_⟩
      · have := small rp' fun z hz => hW ts.length z (by rw [List.take_length]; intro q; rw [q] at hz; simp at hz)
        rw [List.length_map, sizeLine_eq]
        omega
      · rw [pt_D]
        refine ⟨by trivial, _, rfl, (rp'.put c hcL).congr fun z => ?_⟩
        rw [List.take_add_one, hc]
        by_cases zc : z = c
        · subst zc; simp
        · simp [zc]
    · obtain ⟨rfl, dc', rfl, rp'⟩ := hI
      repeat decreasing_trivial_pre_omega
      refine q _ (rp'.congr fun c => ?_)
      rw [Nat.zero_add, List.length_map, List.take_length]
      by_cases hc : cnt (wr ts) c = 0
      · rw [hc]; split <;> rfl
      · rw [if_pos ((mL c).mpr hc)]
end
end Mr
namespace Mr
open PySem PySem.Spec PyProof.Rows L2
variable [Wd]
local macro_rules | `(tactic| decreasing_trivial_pre_omega) => `(tactic| (first | (with_reducible refine sat_seq ?_) | (with_reducible refine seqK_nx ?_) | (with_reducible refine seqK_rt ?_) | (with_reducible refine forK_nx ?_) | (with_reducible refine forK_rt ?_) | (with_reducible refine fnK_rt ?_) | (with_reducible refine frzK_nx ?_) | (with_reducible refine sat_setS ?_) | (with_reducible refine sat_set ?_) | (with_reducible refine sat_unp ?_) | (with_reducible refine sat_sif ?_) | (with_reducible refine sat_ret ?_) | (with_reducible refine sat_skip ?_) | (with_reducible refine sat_expr ?_) | (with_reducible refine sat_par2 ?_) | (with_reducible refine sat_par3 ?_) | (with_reducible refine sat_frz ?_) | (with_reducible refine sat_frzA ?_) | (with_reducible refine sat_c ?_) | (with_reducible refine sat_bin ?_) | (with_reducible refine sat_un ?_) | (with_reducible refine sat_cb ?_) | (with_reducible refine sat_call ?_) | (with_reducible refine sat_cons ?_) | (with_reducible refine sat_nil ?_) | (with_reducible refine sat_tb ?_) | (with_reducible refine sat_tv ?_) | (with_reducible refine sat_tn ?_) | (with_reducible refine sat_ts ?_) | (with_reducible refine sat_to ?_) | (with_reducible refine sat_ta ?_) | (with_reducible refine sat_if' ?_) | (with_reducible refine sat_and ?_) | (with_reducible refine sat_or ?_) | (with_reducible refine sat_not ?_) | (with_reducible refine sat_tup ?_) | (with_reducible refine sat_lst ?_) | (with_reducible refine sat_sl ?_) | (with_reducible refine sat_oNone ?_) | (with_reducible refine sat_oSome ?_) | (with_reducible refine sat_scal ?_) | (with_reducible refine sat_iv ?_) | (with_reducible refine sat_ir ?_) | (with_reducible refine sat_lr1 ?_) | (with_reducible refine sat_lr2 ?_) | ((with_reducible refine sat_var (d := ?_) ?h0 ?_); (case h0 => exact rfl)) | ((with_reducible refine sat_varB ?_ ?_); exact rfl) | ((with_reducible refine sat_retO (d := ?_) ?h0 ?_); (case h0 => exact rfl)) | ((with_reducible refine sat_retS (d := ?_) ?h0 ?_); (case h0 => exact rfl)) | ((with_reducible refine sat_ixO (ds := ?_) ?h0 ?_); (case h0 => exact rfl)) | ((with_reducible refine sat_ixS (d := ?_) ?h0 ?_); (case h0 => exact rfl)) | ((with_reducible refine sat_app (ds := ?_) ?h0 ?_); (case h0 => exact rfl)) | ((with_reducible refine sat_ext (ds := ?_) ?h0 ?_); (case h0 => exact rfl)) | ((with_reducible refine sat_aug (n := ?_) ?h0 ?_); (case h0 => exact rfl)) | (with_reducible refine g2_ss ?_) | (with_reducible refine g2_so ?_) | (with_reducible refine g2_os ?_) | (with_reducible refine g2_oo ?_) | (with_reducible refine g1_s ?_) | (with_reducible refine g1_o ?_) | (with_reducible refine ga_1 ?_) | (with_reducible refine ga_2 ?_) | (with_reducible refine ga_3 ?_) | (with_reducible refine r2 gAdd_int ?_) | (with_reducible refine r2 gSub_int ?_) | (with_reducible refine r2 gEq_int ?_) | (with_reducible refine r2 gNe_int ?_) | (with_reducible refine r2 gLt_int ?_) | (with_reducible refine r2 gLe_int ?_) | (with_reducible refine r2 gGt_int ?_) | (with_reducible refine r2 gGe_int ?_) | (with_reducible refine r2 gEq_str ?_) | (with_reducible refine r2 gNe_str ?_) | (with_reducible refine r2 gLt_str ?_) | (with_reducible refine ra gLen_list ?_) | (with_reducible refine ra gInt_int ?_) | (with_reducible refine ra gMin_int ?_) | (with_reducible refine ra gMax_int ?_) | (with_reducible refine ra gMin_str ?_) | (with_reducible refine ra gMax_str ?_) | (with_reducible refine r1 gNeg_int ?_) | ((with_reducible refine ds_and (ds := ?_) ?h0 ?h1 ?_); (case h0 => exact rfl); (case h1 => exact rfl)) | ((with_reducible refine len_and ?_ ?_); exact rfl) | ((with_reducible refine scal_and ?_ ?_); exact rfl) | (with_reducible refine ⟨_, _, rfl, rfl, ?_⟩) | (with_reducible refine ⟨_, rfl, ?_⟩) | ((with_reducible refine lt_and ?_ ?_); exact rfl) | ((with_reducible refine lt2_and ?_ ?_); exact rfl) | ((with_reducible refine lt3_and ?_ ?_); exact rfl) | (simp only [List.set_cons_zero, List.set_cons_succ, share_sh, share_ow, share_bg, data_sh, data_ow, frzE_nil, frzE_cons, frz1_z, frz1_zs, frz1_s, wipeE_nil, wipeE_cons])))
theorem str_total {x y : Str} (h : ¬ y.cps.toList < x.cps.toList) (h' : ¬ x.cps.toList < y.cps.toList) : x = y := by
  have e : x.cps.toList = y.cps.toList := List.le_antisymm (List.not_lt.mp h) (List.not_lt.mp h')
  obtain ⟨x⟩ := x
  obtain ⟨y⟩ := y
  congr
  exact Array.toList_inj.mp e
theorem str_irr (x : Str) : ¬ x.cps.toList < x.cps.toList := List.lt_irrefl _
theorem str_asymm {x y : Str} (h : y.cps.toList < x.cps.toList) : ¬ x.cps.toList < y.cps.toList := fun h' => List.lt_irrefl _ (List.lt_trans h h')
theorem kl_min {x y : Str} (hx : Kl (.str x)) (hy : Kl (.str y)) : Kl (.str (minS x y)) := by unfold minS; split <;> assumption
theorem kl_max {x y : Str} (hx : Kl (.str x)) (hy : Kl (.str y)) : Kl (.str (maxS x y)) := by unfold maxS; split <;> assumption
theorem rD_snoc (r : Row) (s : Sp1) : rD r ++ [s.d] = rD (r ++ [s]) := by simp
section
variable {ρ : Env} {B : Bag} {Q : EV → Bag → Prop} {QS : Flow → Bag → Prop} {r : Row} {ts us : Tn} {a b c x y : Str} {m n : Nat} {ks : List PyData}
theorem step_on_sat (ok : BagOk B) (hx : Kl (.str x)) (hy : Kl (.str y)) (q : ∀ (s : Sp1) B', BagOk B' → s.Ok → s.b = x → s.e = y → Q (.sh s.d) B') : Sat (m_L_step_on [.bg, .sh (.str x), .sh (.str y)] B) Q := by
  unfold m_L_step_on
  refine sat_fn (by simp only [List.map_cons, List.map_nil, List.length_cons, List.length_nil, List.replicate, List.cons_append, List.nil_append, Nat.reduceAdd, Nat.reduceSub]; exact rfl) ?_
  repeat decreasing_trivial_pre_omega
  refine take_satL ok 2 rfl (by decide) fun r1 B1 ok1 h1 => ?_
  repeat decreasing_trivial_pre_omega
  by_cases e0 : (r1 : Int) = 0
  · rw [decide_eq_true e0]
    refine ⟨fun _ => ?_, (fun z => nomatch z)⟩
    repeat decreasing_trivial_pre_omega
    exact q ⟨x, y, false, false⟩ _ ok1 ⟨hx, hy, (fun z => nomatch z), (fun z => nomatch z)⟩ rfl rfl
  · rw [decide_eq_false e0]
    refine ⟨(fun z => nomatch z), fun _ => ?_⟩
    repeat decreasing_trivial_pre_omega
    unfold m_L_step_on_1
    repeat decreasing_trivial_pre_omega
    refine q ⟨minS x y, maxS x y, true, decide (y.cps.toList < x.cps.toList)⟩ _ ok1 ⟨kl_min hx hy, kl_max hx hy, fun _ => ?_, fun z => ⟨rfl, ?_⟩⟩ ?_ ?_
    · unfold minS maxS
      dsimp only
      by_cases h : y.cps.toList < x.cps.toList
      · rw [if_pos h, if_neg (str_asymm h)]; exact str_asymm h
      · rw [if_neg h]
        split
        · exact h
        · exact str_irr x
    · have z : y.cps.toList < x.cps.toList := of_decide_eq_true z
      unfold minS maxS
      dsimp only
      rw [if_pos z, if_neg (str_asymm z)]
      rw [beq_eq_false_iff_ne]
      intro e
      rw [e] at z
      exact str_irr _ z
    · unfold Sp1.b minS maxS
      dsimp only
      by_cases h : y.cps.toList < x.cps.toList
      · rw [decide_eq_true h, if_pos rfl, if_neg (str_asymm h)]
      · rw [decide_eq_false h, if_neg (by decide), if_neg h]
    · unfold Sp1.e minS maxS
      dsimp only
      by_cases h : y.cps.toList < x.cps.toList
      · rw [decide_eq_true h, if_pos rfl, if_pos h]
      · rw [decide_eq_false h, if_neg (by decide)]
        split
        · rfl
        · rename_i h'; exact str_total h h'
theorem row_from_sat (ok : BagOk B) (hk : ∀ d ∈ ks, Kl d) (nk : ks ≠ []) (lk : ks.length < 2 ^ 32) (hx : Kl (.str x)) (h0 : 0 < n) (hn : n ≤ 100)
    (q : ∀ r y B', BagOk B' → r ≠ [] → r.length ≤ n → (∀ s ∈ r, s.Ok) → Kl (.str y) → Path x r y → Q (.ow (.list (rD r))) B') : Sat (m_L_row_from [.bg, .sh (.list ks), .sh (.str x), .sh (.int (n : Int))] B) Q := by
  unfold m_L_row_from
  refine sat_fn (by simp only [List.map_cons, List.map_nil, List.length_cons, List.length_nil, List.replicate, List.cons_append, List.nil_append, Nat.reduceAdd, Nat.reduceSub]; exact rfl) ?_
  repeat decreasing_trivial_pre_omega
  unfold m_L_row_from_3
  repeat decreasing_trivial_pre_omega
  refine sat_for (fun k ρ B' => BagOk B' ∧ ∃ (r : Row) (y : Str) (x5 x6 : Option EV), ρ = [some .bg, some (.sh (.list ks)), some (.sh (.str y)), some (.sh (.int (n : Int))), some (.ow (.list (rD r))), x5, x6] ∧ r.length = k ∧ (∀ s ∈ r, s.Ok) ∧ Kl (.str y) ∧ Path x r y) ?_
  repeat decreasing_trivial_pre_omega
  refine take_satN ok h0 (by omega) fun r1 B1 ok1 h1 => ?_
  repeat decreasing_trivial_pre_omega
  rw [show (1 : Int) + (r1 : Int) = ((r1 + 1 : Nat) : Int) by omega]
  have rg := rgN (n := r1 + 1) (by omega)
  refine ⟨rg.1, rg.2, ⟨ok1, [], x, _, _, rfl, rfl, by simp, hx, rfl⟩, fun k d ρ B' hd hI => ?_, fun ρ B' hI => ?_⟩
  · obtain ⟨okI, r, y, x5, x6, rfl, lr, okr, hy, pr⟩ := hI
    obtain ⟨rfl, hkn⟩ := range_at hd
    refine ⟨_, rfl, ?_⟩
    unfold m_L_row_from_2
    repeat decreasing_trivial_pre_omega
    refine one_sat okI nk lk fun d B2 ok2 hd => ?_
    obtain ⟨z, rfl, hz⟩ := hk d hd
    have hz' : Kl (.str z) := ⟨z, rfl, hz⟩
    repeat decreasing_trivial_pre_omega
    unfold m_L_row_from_1
    repeat decreasing_trivial_pre_omega
    refine step_on_sat ok2 hy hz' fun s B3 ok3 hs hb he => ?_
    repeat decreasing_trivial_pre_omega
    refine ⟨by rw [List.length_map, sizeLine_eq]; omega, ?_⟩
    repeat decreasing_trivial_pre_omega
    rw [rD_snoc]
    refine ⟨ok3, r ++ [s], z, _, _, rfl, by simp [lr], ?_, hz', pr.append ⟨hb, he⟩⟩
    intro s' hs'
    rcases List.mem_append.mp hs' with h | h
    · exact okr s' h
    · rw [List.mem_singleton.mp h]; exact hs
  · obtain ⟨okI, r, y, x5, x6, rfl, lr, okr, hy, pr⟩ := hI
    rw [range_len, Int.toNat_natCast] at lr
    repeat decreasing_trivial_pre_omega
    exact q r y _ okI (by intro z; rw [z] at lr; simp at lr) (by omega) okr hy pr
theorem atI_lst {r : Row} {s : Sp1} : atI (rD (r ++ [s])) (-1) = some s.d := by rw [← rD_snoc]; exact atI_last _ _
theorem round_sat (ok : BagOk B) (hk : ∀ d ∈ ks, Kl d) (nk : ks ≠ []) (lk : ks.length < 2 ^ 32) (hx : Kl (.str x)) (h0 : 0 < n) (hn : n ≤ 100)
    (q : ∀ r B', BagOk B' → r ≠ [] → r.length ≤ n + 1 → (∀ s ∈ r, s.Ok) → Path x r x → Q (.ow (.list (rD r))) B') : Sat (m_L_round [.bg, .sh (.list ks), .sh (.str x), .sh (.int (n : Int))] B) Q := by
  unfold m_L_round
  refine sat_fn (by simp only [List.map_cons, List.map_nil, List.length_cons, List.length_nil, List.replicate, List.cons_append, List.nil_append, Nat.reduceAdd, Nat.reduceSub]; exact rfl) ?_
  repeat decreasing_trivial_pre_omega
  refine row_from_sat ok hk nk lk hx h0 hn fun r y B1 ok1 nr lr okr hy pr => ?_
  obtain ⟨_, _, r2, s', _, e2⟩ := row_ends_of nr
  have ye : s'.e = y := by rw [e2] at pr; exact pr.last
  have at1 : atI (rD r) (-1) = some s'.d := by rw [e2]; exact atI_lst
  repeat decreasing_trivial_pre_omega
  unfold m_L_round_1
  repeat decreasing_trivial_pre_omega
  refine ⟨_, _, rfl, at1, ?_⟩
  repeat (first | (with_reducible refine Lend_sat ?_) | decreasing_trivial_pre_omega)
  rw [ye]
  cases e : y == x
  · refine ⟨fun _ => ?_, (fun z => nomatch z)⟩
    repeat decreasing_trivial_pre_omega
    refine ⟨_, _, rfl, at1, ?_⟩
    repeat (first | (with_reducible refine Lend_sat ?_) | decreasing_trivial_pre_omega)
    rw [ye]
    refine step_on_sat ok1 hy hx fun s B3 ok3 hs hb he => ?_
    repeat decreasing_trivial_pre_omega
    refine ⟨by rw [List.length_map, sizeLine_eq]; omega, ?_⟩
    repeat decreasing_trivial_pre_omega
    have := q (r ++ [s]) _ ok3 (by simp) (by simp; omega) (fun s' hs' => by
      rcases List.mem_append.mp hs' with h | h
      · exact okr s' h
      · rw [List.mem_singleton.mp h]; exact hs) (pr.append ⟨hb, he⟩)
    rw [← rD_snoc] at this
    exact this
  · refine ⟨(fun z => nomatch z), fun _ => ?_⟩
    repeat decreasing_trivial_pre_omega
    have : y = x := by simpa using e
    subst this
    exact q r _ ok1 nr (by omega) okr pr
theorem gPow_ok {i j : Int} (h : 0 ≤ j ∧ j ≤ 1000000 ∧ i.natAbs < 2 ^ 64) : gPow (.int i) (.int j) = some (.sh (.int (i ^ j.toNat))) := by
  simp only [gPow]; rw [if_pos h]
theorem six_at (r : Nat) (h : r < 6) : ∃ m : Nat, gIx (.list [.int 1, .int 2, .int 3, .int 4, .int 6, .int 12]) (.int (r : Int)) = some (.sh (.int (m : Int))) ∧ 0 < m ∧ m ≤ 12 := by
  match r, h with
  | 0, _ => exact ⟨1, rfl, by decide, by decide⟩
  | 1, _ => exact ⟨2, rfl, by decide, by decide⟩
  | 2, _ => exact ⟨3, rfl, by decide, by decide⟩
  | 3, _ => exact ⟨4, rfl, by decide, by decide⟩
  | 4, _ => exact ⟨6, rfl, by decide, by decide⟩
  | 5, _ => exact ⟨12, rfl, by decide, by decide⟩
theorem four_at (r : Nat) (h : r < 4) : ∃ m : Nat, gIx (.list [.int (10 ^ (3 : Int).toNat), .int (10 ^ (9 : Int).toNat), .int (10 ^ (17 : Int).toNat), .int (10 ^ (29 : Int).toNat)]) (.int (r : Int)) = some (.sh (.int (m : Int))) ∧ 0 < m ∧ m ≤ 10 ^ 29 := by
  match r, h with
  | 0, _ => exact ⟨10 ^ 3, rfl, by decide, by decide⟩
  | 1, _ => exact ⟨10 ^ 9, rfl, by decide, by decide⟩
  | 2, _ => exact ⟨10 ^ 17, rfl, by decide, by decide⟩
  | 3, _ => exact ⟨10 ^ 29, rfl, by decide, by decide⟩
theorem number_sat (ok : BagOk B) (q : ∀ (m : Nat) B', BagOk B' → 0 < m → m ≤ 10 ^ 29 + 6 → Q (.sh (.int (m : Int))) B') : Sat (m_L_number [.bg] B) Q := by
  unfold m_L_number
  refine sat_fn (by simp only [List.map_cons, List.map_nil, List.length_cons, List.length_nil, List.replicate, List.cons_append, List.nil_append, Nat.reduceAdd, Nat.reduceSub]; exact rfl) ?_
  repeat decreasing_trivial_pre_omega
  refine take_satL ok 8 rfl (by decide) fun r1 B1 ok1 h1 => ?_
  repeat decreasing_trivial_pre_omega
  unfold m_L_number_2
  repeat decreasing_trivial_pre_omega
  by_cases e0 : (r1 : Int) < 6
  · rw [decide_eq_true e0]
    refine ⟨fun _ => ?_, (fun z => nomatch z)⟩
    obtain ⟨m, hm, p1, p2⟩ := six_at r1 (by omega)
    repeat (first | (with_reducible refine r2 hm ?_) | decreasing_trivial_pre_omega)
    refine take_satN ok1 p1 (by omega) fun r2 B2 ok2 h2 => ?_
    repeat decreasing_trivial_pre_omega
    rw [show (1 : Int) + (r2 : Int) = ((r2 + 1 : Nat) : Int) by omega]
    exact q _ _ ok2 (by omega) (by omega)
  · rw [decide_eq_false e0]
    refine ⟨(fun z => nomatch z), fun _ => ?_⟩
    repeat decreasing_trivial_pre_omega
    unfold m_L_number_1
    repeat (first | (with_reducible refine r2 (gPow_ok (by decide)) ?_) | decreasing_trivial_pre_omega)
    refine take_satL ok1 4 rfl (by decide) fun r2 B2 ok2 h2 => ?_
    obtain ⟨m, hm, p1, p2⟩ := four_at r2 h2
    repeat decreasing_trivial_pre_omega
    refine Mr.r2 hm ?_
    repeat decreasing_trivial_pre_omega
    refine take_satL ok2 7 rfl (by decide) fun r3 B3 ok3 h3 => ?_
    repeat decreasing_trivial_pre_omega
    rw [show (m : Int) + (r3 : Int) = ((m + r3 : Nat) : Int) by omega]
    exact q _ _ ok3 (by omega) (by omega)
end
end Mr
namespace Mr
open PySem PySem.Spec PyProof.Rows L2
variable [Wd]
local macro_rules | `(tactic| decreasing_trivial_pre_omega) => `(tactic| (first | (with_reducible refine sat_seq ?_) | (with_reducible refine seqK_nx ?_) | (with_reducible refine seqK_rt ?_) | (with_reducible refine forK_nx ?_) | (with_reducible refine forK_rt ?_) | (with_reducible refine fnK_rt ?_) | (with_reducible refine frzK_nx ?_) | (with_reducible refine sat_setS ?_) | (with_reducible refine sat_set ?_) | (with_reducible refine sat_unp ?_) | (with_reducible refine sat_sif ?_) | (with_reducible refine sat_ret ?_) | (with_reducible refine sat_skip ?_) | (with_reducible refine sat_expr ?_) | (with_reducible refine sat_par2 ?_) | (with_reducible refine sat_par3 ?_) | (with_reducible refine sat_frz ?_) | (with_reducible refine sat_frzA ?_) | (with_reducible refine sat_c ?_) | (with_reducible refine sat_bin ?_) | (with_reducible refine sat_un ?_) | (with_reducible refine sat_cb ?_) | (with_reducible refine sat_call ?_) | (with_reducible refine sat_cons ?_) | (with_reducible refine sat_nil ?_) | (with_reducible refine sat_tb ?_) | (with_reducible refine sat_tv ?_) | (with_reducible refine sat_tn ?_) | (with_reducible refine sat_ts ?_) | (with_reducible refine sat_to ?_) | (with_reducible refine sat_ta ?_) | (with_reducible refine sat_if' ?_) | (with_reducible refine sat_and ?_) | (with_reducible refine sat_or ?_) | (with_reducible refine sat_not ?_) | (with_reducible refine sat_tup ?_) | (with_reducible refine sat_lst ?_) | (with_reducible refine sat_sl ?_) | (with_reducible refine sat_oNone ?_) | (with_reducible refine sat_oSome ?_) | (with_reducible refine sat_scal ?_) | (with_reducible refine sat_iv ?_) | (with_reducible refine sat_ir ?_) | (with_reducible refine sat_lr1 ?_) | (with_reducible refine sat_lr2 ?_) | ((with_reducible refine sat_var (d := ?_) ?h0 ?_); (case h0 => exact rfl)) | ((with_reducible refine sat_varB ?_ ?_); exact rfl) | ((with_reducible refine sat_retO (d := ?_) ?h0 ?_); (case h0 => exact rfl)) | ((with_reducible refine sat_retS (d := ?_) ?h0 ?_); (case h0 => exact rfl)) | ((with_reducible refine sat_ixO (ds := ?_) ?h0 ?_); (case h0 => exact rfl)) | ((with_reducible refine sat_ixS (d := ?_) ?h0 ?_); (case h0 => exact rfl)) | ((with_reducible refine sat_app (ds := ?_) ?h0 ?_); (case h0 => exact rfl)) | ((with_reducible refine sat_ext (ds := ?_) ?h0 ?_); (case h0 => exact rfl)) | ((with_reducible refine sat_aug (n := ?_) ?h0 ?_); (case h0 => exact rfl)) | (with_reducible refine g2_ss ?_) | (with_reducible refine g2_so ?_) | (with_reducible refine g2_os ?_) | (with_reducible refine g2_oo ?_) | (with_reducible refine g1_s ?_) | (with_reducible refine g1_o ?_) | (with_reducible refine ga_1 ?_) | (with_reducible refine ga_2 ?_) | (with_reducible refine ga_3 ?_) | (with_reducible refine r2 gAdd_int ?_) | (with_reducible refine r2 gSub_int ?_) | (with_reducible refine r2 gEq_int ?_) | (with_reducible refine r2 gNe_int ?_) | (with_reducible refine r2 gLt_int ?_) | (with_reducible refine r2 gLe_int ?_) | (with_reducible refine r2 gGt_int ?_) | (with_reducible refine r2 gGe_int ?_) | (with_reducible refine r2 gEq_str ?_) | (with_reducible refine r2 gNe_str ?_) | (with_reducible refine r2 gLt_str ?_) | (with_reducible refine ra gLen_list ?_) | (with_reducible refine ra gInt_int ?_) | (with_reducible refine ra gMin_int ?_) | (with_reducible refine ra gMax_int ?_) | (with_reducible refine ra gMin_str ?_) | (with_reducible refine ra gMax_str ?_) | (with_reducible refine r1 gNeg_int ?_) | ((with_reducible refine ds_and (ds := ?_) ?h0 ?h1 ?_); (case h0 => exact rfl); (case h1 => exact rfl)) | ((with_reducible refine len_and ?_ ?_); exact rfl) | ((with_reducible refine scal_and ?_ ?_); exact rfl) | (with_reducible refine ⟨_, _, rfl, rfl, ?_⟩) | (with_reducible refine ⟨_, rfl, ?_⟩) | ((with_reducible refine lt_and ?_ ?_); exact rfl) | ((with_reducible refine lt2_and ?_ ?_); exact rfl) | ((with_reducible refine lt3_and ?_ ?_); exact rfl) | (simp only [List.set_cons_zero, List.set_cons_succ, share_sh, share_ow, share_bg, data_sh, data_ow, frzE_nil, frzE_cons, frz1_z, frz1_zs, frz1_s, wipeE_nil, wipeE_cons])))
/-- parts as they are drawn -/
structure PtOk (p : Nat × Row) : Prop where
  m1 : p.1 ≤ 10 ^ 29 + 6
  r1 : p.2.length ≤ 4
  st : ∀ s ∈ p.2, s.Ok
theorem tD_snoc (ts : Tn) (m : Nat) (r : Row) : tD ts ++ [.tuple [.int (m : Int), .list (rD r)]] = tD (ts ++ [(m, r)]) := by simp
theorem gIx_part {m : Nat} {r : Row} : gIx (.tuple [.int (m : Int), .list (rD r)]) (.int 1) = some (.sh (.list (rD r))) := rfl
theorem Path.kl {r : Row} {x y : Str} (hx : Kl (.str x)) (ok : ∀ s ∈ r, s.Ok) (p : Path x r y) : Kl (.str y) := by
  induction r generalizing x with
  | nil => cases p; exact hx
  | cons s r ih =>
    refine ih ?_ (fun z hz => ok z (List.mem_cons_of_mem _ hz)) p.2
    have := ok s (List.mem_cons_self ..)
    unfold Sp1.e
    split
    · exact this.kx
    · exact this.ky
section
variable {ρ : Env} {B : Bag} {Q : EV → Bag → Prop} {QS : Flow → Bag → Prop} {r : Row} {ts us : Tn} {a b c x y : Str} {m n : Nat} {ks : List PyData}
theorem snoc_ok {ts : Tn} {p : Nat × Row} (h : ∀ p ∈ ts, PtOk p) (hp : PtOk p) : ∀ z ∈ ts ++ [p], PtOk z := fun z hz => by
  rcases List.mem_append.mp hz with z1 | z1
  · exact h z z1
  · rw [List.mem_singleton.mp z1]; exact hp
theorem train_sat (ok : BagOk B) (hk : ∀ d ∈ ks, Kl d) (nk : ks ≠ []) (lk : ks.length < 2 ^ 32) (h0 : 0 < n) (hn : n ≤ 100)
    (q : ∀ ts a c B', BagOk B' → ts ≠ [] → ts.length ≤ n → (∀ p ∈ ts, PtOk p) → Kl (.str a) → Kl (.str c) → TPath a ts c → Q (.ow (.list (tD ts))) B') : Sat (m_L_train [.bg, .sh (.list ks), .sh (.int (n : Int))] B) Q := by
  unfold m_L_train
  refine sat_fn (by simp only [List.map_cons, List.map_nil, List.length_cons, List.length_nil, List.replicate, List.cons_append, List.nil_append, Nat.reduceAdd, Nat.reduceSub]; exact rfl) ?_
  repeat decreasing_trivial_pre_omega
  refine one_sat ok nk lk fun d B1 ok1 hd => ?_
  obtain ⟨x, rfl, hx⟩ := hk d hd
  have hx' : Kl (.str x) := ⟨x, rfl, hx⟩
  repeat decreasing_trivial_pre_omega
  unfold m_L_train_3
  repeat decreasing_trivial_pre_omega
  refine sat_for (fun k ρ B' => BagOk B' ∧ ∃ (ts : Tn) (y : Str) (x3 : Option EV), ρ = [some .bg, some (.sh (.list ks)), some (.sh (.int (n : Int))), x3, some (.sh (.str y)), some (.ow (.list (tD ts)))] ∧ ts.length = k ∧ (∀ p ∈ ts, PtOk p) ∧ Kl (.str y) ∧ TPath x ts y) ?_
  repeat decreasing_trivial_pre_omega
  refine take_satN ok1 h0 (by omega) fun r1 B2 ok2 h1 => ?_
  repeat decreasing_trivial_pre_omega
  rw [show (1 : Int) + (r1 : Int) = ((r1 + 1 : Nat) : Int) by omega]
  have rg := rgN (n := r1 + 1) (by omega)
  refine ⟨rg.1, rg.2, ⟨ok2, [], x, _, rfl, rfl, by simp, hx', rfl⟩, fun k d ρ B' hd hI => ?_, fun ρ B' hI => ?_⟩
  · obtain ⟨okI, ts, y, x3, rfl, lt, okt, hy, pt⟩ := hI
    obtain ⟨rfl, hkn⟩ := range_at hd
    have lz : (tD ts).length < sizeLine := by rw [List.length_map, sizeLine_eq]; omega
    refine ⟨_, rfl, ?_⟩
    unfold m_L_train_2
    repeat decreasing_trivial_pre_omega
    refine take_satL okI 2 rfl (by decide) fun r2 B3 ok3 h2 => ?_
    repeat decreasing_trivial_pre_omega
    by_cases e0 : (r2 : Int) = 0
    · rw [decide_eq_true e0]
      refine ⟨fun _ => ?_, (fun z => nomatch z)⟩
      repeat decreasing_trivial_pre_omega
      refine number_sat ok3 fun m B4 ok4 m0 m1 => ?_
      repeat decreasing_trivial_pre_omega
      refine round_sat (n := 3) ok4 hk nk lk hy (by decide) (by decide) fun r B5 ok5 nr lr okr pr => ?_
      repeat decreasing_trivial_pre_omega
      refine ⟨lz, ?_⟩
      rw [tD_snoc]
      repeat decreasing_trivial_pre_omega
      exact ⟨ok5, _, y, _, rfl, by simp [lt], snoc_ok okt ⟨m1, lr, okr⟩, hy, pt.append ⟨m0, nr, y, pr, .inr rfl, rfl⟩⟩
    · rw [decide_eq_false e0]
      refine ⟨(fun z => nomatch z), fun _ => ?_⟩
      repeat decreasing_trivial_pre_omega
      refine row_from_sat (n := 4) ok3 hk nk lk hy (by decide) (by decide) fun r z B5 ok5 nr lr okr hz pr => ?_
      repeat decreasing_trivial_pre_omega
      refine ⟨lz, ?_⟩
      obtain ⟨_, _, r2, s', _, e2⟩ := row_ends_of nr
      have ze : s'.e = z := by rw [e2] at pr; exact pr.last
      have at1 : gIx (.list (rD r)) (.int (-1)) = some (.sh s'.d) := by rw [e2, ← rD_snoc]; exact gIx_last
      rw [show (PyData.int 1) = .int ((1 : Nat) : Int) from rfl, tD_snoc]
      repeat decreasing_trivial_pre_omega
      unfold m_L_train_1
      repeat decreasing_trivial_pre_omega
      refine ⟨_, _, rfl, (show atI (tD (ts ++ [(1, r)])) (-1) = some (pD (1, r)) by rw [← tD_snoc]; exact atI_last _ _), ?_⟩
      repeat (first | (with_reducible refine Mr.r2 gIx_part ?_) | (with_reducible refine Mr.r2 at1 ?_) | (with_reducible refine Lend_sat ?_) | decreasing_trivial_pre_omega)
      rw [ze]
      exact ⟨ok5, _, z, _, rfl, by simp [lt], snoc_ok okt ⟨(show (1 : Nat) ≤ 10 ^ 29 + 6 by decide), lr, okr⟩, hz, pt.append ⟨(show 0 < 1 by decide), nr, z, pr, .inl rfl, rfl⟩⟩
  · obtain ⟨okI, ts, y, x3, rfl, lt, okt, hy, pt⟩ := hI
    rw [range_len, Int.toNat_natCast] at lt
    repeat decreasing_trivial_pre_omega
    exact q ts x y _ okI (by intro z; rw [z] at lt; simp at lt) (by omega) okt hx' hy pt
def shP (p : Nat × Row) : Nat × Row := (if p.1 < 13 then p.1 else 2, p.2)
def shF : PyData → PyData
  | .tuple [.int m, .list r] => .tuple [.int (if m < 13 then m else 2), .list r]
  | d => d
theorem shP_path : ∀ {ts : Tn} {a c : Str}, TPath a ts c → TPath a (ts.map shP) c
  | [], _, _, h => h
  | p :: ts, a, c, ⟨h1, h2, b, h3, h4, h5⟩ => by
    refine ⟨?_, h2, b, h3, ?_, shP_path h5⟩
    · simp only [shP]; split <;> omega
    · rcases h4 with h4 | h4
      · left; simp [shP, h4]
      · exact .inr h4
theorem short_train_sat (ok : BagOk B) (hk : ∀ d ∈ ks, Kl d) (nk : ks ≠ []) (lk : ks.length < 2 ^ 32) (h0 : 0 < n) (hn : n ≤ 100)
    (q : ∀ ts a c B', BagOk B' → ts ≠ [] → ts.length ≤ n → (∀ p ∈ ts, PtOk p ∧ p.1 < 13) → Kl (.str a) → Kl (.str c) → TPath a ts c → Q (.ow (.list (tD ts))) B') : Sat (m_L_short_train [.bg, .sh (.list ks), .sh (.int (n : Int))] B) Q := by
  unfold m_L_short_train
  refine sat_fn (by simp only [List.map_cons, List.map_nil, List.length_cons, List.length_nil, List.replicate, List.cons_append, List.nil_append, Nat.reduceAdd, Nat.reduceSub]; exact rfl) ?_
  repeat decreasing_trivial_pre_omega
  refine sat_compM shF ?_
  repeat decreasing_trivial_pre_omega
  refine train_sat ok hk nk lk h0 hn fun ts a c B1 ok1 nt lt okt ka kc pt => ?_
  repeat decreasing_trivial_pre_omega
  refine ⟨by rw [List.length_map]; exact sz (by omega), ?_, ?_⟩
  · intro d hd
    obtain ⟨p, hp, rfl⟩ := List.mem_map.mp hd
    refine ⟨_, rfl, ?_⟩
    repeat decreasing_trivial_pre_omega
    by_cases h : (p.1 : Int) < 13
    · rw [decide_eq_true h]
      refine ⟨fun _ => ?_, (fun z => nomatch z)⟩
      repeat decreasing_trivial_pre_omega
      exact ⟨by trivial, by simp [shF, h]⟩
    · rw [decide_eq_false h]
      refine ⟨(fun z => nomatch z), fun _ => ?_⟩
      repeat decreasing_trivial_pre_omega
      exact ⟨by trivial, by simp [shF, h]⟩
  · have e : (tD ts).map shF = tD (ts.map shP) := by
      show (ts.map pD).map shF = (ts.map shP).map pD
      rw [List.map_map, List.map_map]
      refine List.map_congr_left fun p _ => ?_
      simp only [Function.comp, shF, shP]
      by_cases h : p.1 < 13
      · rw [if_pos h, if_pos (by omega)]
      · rw [if_neg h, if_neg (by omega)]; rfl
    rw [e]
    repeat decreasing_trivial_pre_omega
    refine q _ a c _ ok1 (by simpa using nt) (by simpa using lt) ?_ ka kc (shP_path pt)
    intro z hz
    obtain ⟨p, hp, rfl⟩ := List.mem_map.mp hz
    have o := okt p hp
    refine ⟨⟨?_, o.r1, o.st⟩, ?_⟩
    · simp only [shP]
      split
      · omega
      · decide
    · simp only [shP]; split <;> omega
end
end Mr
namespace Mr
open PySem PySem.Spec PyProof.Rows L2
variable [Wd]
local macro_rules | `(tactic| decreasing_trivial_pre_omega) => `(tactic| (first | (with_reducible refine sat_seq ?_) | (with_reducible refine seqK_nx ?_) | (with_reducible refine seqK_rt ?_) | (with_reducible refine forK_nx ?_) | (with_reducible refine forK_rt ?_) | (with_reducible refine fnK_rt ?_) | (with_reducible refine frzK_nx ?_) | (with_reducible refine sat_setS ?_) | (with_reducible refine sat_set ?_) | (with_reducible refine sat_unp ?_) | (with_reducible refine sat_sif ?_) | (with_reducible refine sat_ret ?_) | (with_reducible refine sat_skip ?_) | (with_reducible refine sat_expr ?_) | (with_reducible refine sat_par2 ?_) | (with_reducible refine sat_par3 ?_) | (with_reducible refine sat_frz ?_) | (with_reducible refine sat_frzA ?_) | (with_reducible refine sat_c ?_) | (with_reducible refine sat_bin ?_) | (with_reducible refine sat_un ?_) | (with_reducible refine sat_cb ?_) | (with_reducible refine sat_call ?_) | (with_reducible refine sat_cons ?_) | (with_reducible refine sat_nil ?_) | (with_reducible refine sat_tb ?_) | (with_reducible refine sat_tv ?_) | (with_reducible refine sat_tn ?_) | (with_reducible refine sat_ts ?_) | (with_reducible refine sat_to ?_) | (with_reducible refine sat_ta ?_) | (with_reducible refine sat_if' ?_) | (with_reducible refine sat_and ?_) | (with_reducible refine sat_or ?_) | (with_reducible refine sat_not ?_) | (with_reducible refine sat_tup ?_) | (with_reducible refine sat_lst ?_) | (with_reducible refine sat_sl ?_) | (with_reducible refine sat_oNone ?_) | (with_reducible refine sat_oSome ?_) | (with_reducible refine sat_scal ?_) | (with_reducible refine sat_iv ?_) | (with_reducible refine sat_ir ?_) | (with_reducible refine sat_lr1 ?_) | (with_reducible refine sat_lr2 ?_) | ((with_reducible refine sat_var (d := ?_) ?h0 ?_); (case h0 => exact rfl)) | ((with_reducible refine sat_varB ?_ ?_); exact rfl) | ((with_reducible refine sat_retO (d := ?_) ?h0 ?_); (case h0 => exact rfl)) | ((with_reducible refine sat_retS (d := ?_) ?h0 ?_); (case h0 => exact rfl)) | ((with_reducible refine sat_ixO (ds := ?_) ?h0 ?_); (case h0 => exact rfl)) | ((with_reducible refine sat_ixS (d := ?_) ?h0 ?_); (case h0 => exact rfl)) | ((with_reducible refine sat_app (ds := ?_) ?h0 ?_); (case h0 => exact rfl)) | ((with_reducible refine sat_ext (ds := ?_) ?h0 ?_); (case h0 => exact rfl)) | ((with_reducible refine sat_aug (n := ?_) ?h0 ?_); (case h0 => exact rfl)) | (with_reducible refine g2_ss ?_) | (with_reducible refine g2_so ?_) | (with_reducible refine g2_os ?_) | (with_reducible refine g2_oo ?_) | (with_reducible refine g1_s ?_) | (with_reducible refine g1_o ?_) | (with_reducible refine ga_1 ?_) | (with_reducible refine ga_2 ?_) | (with_reducible refine ga_3 ?_) | (with_reducible refine r2 gAdd_int ?_) | (with_reducible refine r2 gSub_int ?_) | (with_reducible refine r2 gEq_int ?_) | (with_reducible refine r2 gNe_int ?_) | (with_reducible refine r2 gLt_int ?_) | (with_reducible refine r2 gLe_int ?_) | (with_reducible refine r2 gGt_int ?_) | (with_reducible refine r2 gGe_int ?_) | (with_reducible refine r2 gEq_str ?_) | (with_reducible refine r2 gNe_str ?_) | (with_reducible refine r2 gLt_str ?_) | (with_reducible refine ra gLen_list ?_) | (with_reducible refine ra gInt_int ?_) | (with_reducible refine ra gMin_int ?_) | (with_reducible refine ra gMax_int ?_) | (with_reducible refine ra gMin_str ?_) | (with_reducible refine ra gMax_str ?_) | (with_reducible refine r1 gNeg_int ?_) | ((with_reducible refine ds_and (ds := ?_) ?h0 ?h1 ?_); (case h0 => exact rfl); (case h1 => exact rfl)) | ((with_reducible refine len_and ?_ ?_); exact rfl) | ((with_reducible refine scal_and ?_ ?_); exact rfl) | (with_reducible refine ⟨_, _, rfl, rfl, ?_⟩) | (with_reducible refine ⟨_, rfl, ?_⟩) | ((with_reducible refine lt_and ?_ ?_); exact rfl) | ((with_reducible refine lt2_and ?_ ?_); exact rfl) | ((with_reducible refine lt3_and ?_ ?_); exact rfl) | (simp only [List.set_cons_zero, List.set_cons_succ, share_sh, share_ow, share_bg, data_sh, data_ow, frzE_nil, frzE_cons, frz1_z, frz1_zs, frz1_s, wipeE_nil, wipeE_cons])))
/-! trains with all that is asked of them -/
theorem sp_gp {s : Sp1} (h : s.Ok) : Gp 74 2 s.d :=
  Gp.tup2 (n := 36) (m := 1) ((Gp.tup3 (Gp.kd h.kx.kd) (Gp.kd h.ky.kd) (Gp.bool.mono (by decide) (by decide))).mono (by decide) (Nat.le_refl _)) (Gp.bool.mono (by decide) (by decide))
theorem row_gp {r : Mr.Row} (h : ∀ s ∈ r, s.Ok) : Gp (r.length * 75) 3 (.list (rD r)) := by
  have := Gp.list (ds := rD r) (n := 74) (m := 2) (k := r.length) (fun d hd => by
    obtain ⟨s, hs, rfl⟩ := List.mem_map.mp hd
    exact sp_gp (h s hs)) (by simp)
  exact this
theorem ends_gp {a b : Str} (ha : Kl (.str a)) (hb : Kl (.str b)) : Gp 18 1 (.tuple [.str a, .str b]) := Gp.tup2 (Gp.kd ha.kd) (Gp.kd hb.kd)
theorem gNe_same {n m : Nat} {d : PyData} (h : Gp n m d) (hm : m ≤ 60) : gNe d d = some (.sh (.bool false)) := by
  rw [gNe_gp h h hm hm, SeqAt.eqv_refl_plain _ h.pl]; rfl
theorem gEq_same {n m : Nat} {d : PyData} (h : Gp n m d) (hm : m ≤ 60) : gEq d d = some (.sh (.bool true)) := by
  rw [gEq_gp h h hm hm, SeqAt.eqv_refl_plain _ h.pl]
theorem gMul_list {r : Mr.Row} {m : Nat} (hm : m ≤ 90000) (h : m * r.length ≤ 90000) : gMul (.list (rD r)) (.int (m : Int)) = some (.ow (.list (rD (reps m r)))) := by
  simp only [gMul]
  rw [if_pos ⟨by omega, by omega, sz (by rw [List.length_map, Int.toNat_natCast, Nat.mul_comm]; omega)⟩, Int.toNat_natCast]
  have : (List.replicate m (rD r)).flatten = rD (reps m r) := by
    simp [rD, reps, List.map_flatten, List.map_replicate]
  rw [this]
structure FOk (w : Mr.Row) (a c : Str) (F : Tn) : Prop where
  ne : F ≠ []
  path : TPath a F c
  eq : wr F = w
  st : ∀ p ∈ F, ∀ s ∈ p.2, s.Ok
  ln : F.length ≤ 90000
  fl : (F.flatMap (·.2)).length ≤ 90000
theorem FOk.rl {w : Mr.Row} {a c : Str} {F : Tn} (f : FOk w a c F) : ∀ p ∈ F, p.2.length ≤ 90000 := fun p hp => Nat.le_trans (List.Sublist.length_le (by
    obtain ⟨t1, t2, rfl⟩ := List.append_of_mem hp
    rw [List.flatMap_append, List.flatMap_cons]
    exact (List.sublist_append_left ..).trans (List.sublist_append_right ..))) f.fl
theorem FOk.m0 {w : Mr.Row} {a c : Str} {F : Tn} (f : FOk w a c F) : ∀ p ∈ F, 0 < p.1 := fun p hp => (f.path.mem hp).1
theorem FOk.both {w : Mr.Row} {a c : Str} {F : Tn} (f : FOk w a c F) : ∀ p ∈ F, p.2 ≠ [] ∧ p.2.length ≤ 90000 := fun p hp => ⟨(f.path.mem hp).2.1, f.rl p hp⟩
theorem take_min (w : Mr.Row) (n : Nat) : w.take (min n w.length) = w.take n := by
  by_cases h : n ≤ w.length
  · rw [Nat.min_eq_left h]
  · rw [Nat.min_eq_right (by omega), List.take_length, List.take_of_length_le (by omega)]
theorem flat_le {ts : Tn} {n : Nat} (h : ∀ p ∈ ts, p.2.length ≤ n) : (ts.flatMap (·.2)).length ≤ ts.length * n := by
  induction ts with
  | nil => simp
  | cons p ts ih =>
    have h1 := h p (List.mem_cons_self ..)
    have h2 := ih fun z hz => h z (List.mem_cons_of_mem _ hz)
    rw [List.flatMap_cons, List.length_append, List.length_cons, Nat.add_mul]
    omega
theorem wr_le {n m : Nat} {ts : Tn} (h : ∀ p ∈ ts, p.1 ≤ n ∧ p.2.length ≤ m) : (wr ts).length ≤ ts.length * (n * m) := by
  induction ts with
  | nil => simp [wr]
  | cons p ts ih =>
    have h1 := h p (List.mem_cons_self ..)
    have h2 := ih fun z hz => h z (List.mem_cons_of_mem _ hz)
    have h3 : p.1 * p.2.length ≤ n * m := Nat.mul_le_mul h1.1 h1.2
    rw [wr, List.length_append, reps_len, List.length_cons, Nat.add_mul]
    omega

theorem Rep.ne {f : Ca → Int} {d d' : Cd} (r : Rep f d) (r' : Rep f d') : gNeD (.dict (dD d)) (.dict (dD d')) = some (.sh (.bool false)) := by
  have h := r.eq r'
  simp only [gEqD, gNeD] at h ⊢
  split at h
  · rename_i ok
    rw [if_pos ok]
    have e := EV.sh.inj (Option.some.inj h)
    have e2 := PyData.bool.inj e
    rw [e2]; rfl
  · cases h
theorem gGt_str {a b : Str} : gGt (.str a) (.str b) = some (.sh (.bool (decide (b.cps.toList < a.cps.toList)))) := by
  simp only [gGt, okC_str, if_true, lt_strD]
section
variable {ρ : Env} {B : Bag} {Q : EV → Bag → Prop} {QI : List PyData → Bag → Prop} {ms : AM}
theorem sat_enum (h : Sat (ms ρ B) fun es B1 => ∃ xs, es = [.sh (.list xs)] ∧ QI (enumD xs) B1) : Sat (iEnumM ms ρ B) QI := by
  unfold iEnumM
  rw [sat_bind]
  refine sat_mono h fun es B1 ⟨xs, h1, h2⟩ => ?_
  subst h1
  exact sat_ok h2
end
/-- the cart that turns, from x to y -/
def free (x y : Str) : Sp1 := ⟨minS x y, maxS x y, true, decide (y.cps.toList < x.cps.toList)⟩
theorem free_ok {x y : Str} (hx : Kl (.str x)) (hy : Kl (.str y)) : (free x y).Ok := by
  refine ⟨kl_min hx hy, kl_max hx hy, fun _ => ?_, fun z => ⟨rfl, ?_⟩⟩
  · unfold free minS maxS
    dsimp only
    by_cases h : y.cps.toList < x.cps.toList
    · rw [if_pos h, if_neg (str_asymm h)]; exact str_asymm h
    · rw [if_neg h]
      split
      · exact h
      · exact str_irr x
  · have z : y.cps.toList < x.cps.toList := of_decide_eq_true z
    unfold free minS maxS
    dsimp only
    rw [if_pos z, if_neg (str_asymm z)]
    rw [beq_eq_false_iff_ne]
    intro e
    rw [e] at z
    exact str_irr _ z
theorem free_b (x y : Str) : (free x y).b = x := by
  unfold Sp1.b free minS maxS
  dsimp only
  by_cases h : y.cps.toList < x.cps.toList
  · rw [decide_eq_true h, if_pos rfl, if_neg (str_asymm h)]
  · rw [decide_eq_false h, if_neg (by decide), if_neg h]
theorem free_e (x y : Str) : (free x y).e = y := by
  unfold Sp1.e free minS maxS
  dsimp only
  by_cases h : y.cps.toList < x.cps.toList
  · rw [decide_eq_true h, if_pos rfl, if_pos h]
  · rw [decide_eq_false h, if_neg (by decide)]
    split
    · rfl
    · rename_i h'; exact str_total h h'
/-! turned about -/
def far (s : Sp1) : Sp1 := if s.x == s.y then s else ⟨s.x, s.y, s.t, !s.u⟩
theorem far_far (s : Sp1) : far (far s) = s := by
  obtain ⟨x, y, t, u⟩ := s
  unfold far
  cases h : x == y <;> simp [h]
theorem far_k (s : Sp1) : (far s).k = s.k := by unfold far; split <;> rfl
theorem far_t (s : Sp1) : (far s).t = s.t := by unfold far; split <;> rfl
theorem far_b (s : Sp1) : (far s).b = s.e := by
  obtain ⟨x, y, t, u⟩ := s
  unfold far Sp1.b Sp1.e
  cases h : x == y
  · cases u <;> rfl
  · have : x = y := by simpa using h
    subst this
    cases u <;> simp
theorem far_e (s : Sp1) : (far s).e = s.b := by rw [← far_b, far_far]
theorem far_ok {s : Sp1} (h : s.Ok) (ht : s.t = true) : (far s).Ok := by
  obtain ⟨x, y, t, u⟩ := s
  unfold far
  cases e : x == y
  · exact ⟨h.kx, h.ky, h.le, fun _ => ⟨ht, e⟩⟩
  · exact h
def rab (r : Mr.Row) : Mr.Row := r.reverse.map far
theorem rab_rab (r : Mr.Row) : rab (rab r) = r := by
  unfold rab
  rw [← List.map_reverse, List.reverse_reverse, List.map_map]
  have : far ∘ far = id := funext far_far
  rw [this, List.map_id]
theorem rab_append (r r' : Mr.Row) : rab (r ++ r') = rab r' ++ rab r := by simp [rab]
theorem rab_len (r : Mr.Row) : (rab r).length = r.length := by simp [rab]
theorem rab_mem {r : Mr.Row} {s : Sp1} (h : s ∈ rab r) : ∃ z ∈ r, s = far z := by
  obtain ⟨z, hz, rfl⟩ := List.mem_map.mp h
  exact ⟨z, List.mem_reverse.mp hz, rfl⟩
theorem rab_cnt (r : Mr.Row) (c : Ca) : cnt (rab r) c = cnt r c := by
  unfold cnt rab
  rw [List.map_map, show Sp1.k ∘ far = Sp1.k from funext far_k, List.map_reverse, List.count_reverse]
theorem rab_path : ∀ {r : Mr.Row} {a c : Str}, Path a r c → Path c (rab r) a
  | [], _, _, h => by cases h; rfl
  | s :: r, a, c, h => by
    have e : rab (s :: r) = rab r ++ [far s] := by simp [rab]
    rw [e]
    refine (rab_path h.2).append ⟨far_b s, ?_⟩
    show (far s).e = a
    rw [far_e]; exact h.1
theorem rab_reps (m : Nat) (r : Mr.Row) : rab (reps m r) = reps m (rab r) := by
  induction m with
  | zero => rfl
  | succ m ih =>
    have e1 : reps (m + 1) r = r ++ reps m r := by simp [reps, List.replicate_succ]
    have e2 : reps (m + 1) (rab r) = reps m (rab r) ++ rab r := by simp [reps, List.replicate_succ']
    rw [e1, rab_append, ih, e2]
abbrev rp (p : Nat × Mr.Row) : Nat × Mr.Row := (p.1, rab p.2)
def tab (ts : Tn) : Tn := (ts.map rp).reverse
theorem tab_tab (ts : Tn) : tab (tab ts) = ts := by
  unfold tab
  rw [List.map_reverse, List.reverse_reverse, List.map_map]
  have : rp ∘ rp = id := funext fun p => by simp [rp, rab_rab]
  rw [this, List.map_id]
theorem tab_append (ts us : Tn) : tab (ts ++ us) = tab us ++ tab ts := by simp [tab]
theorem tab_len (ts : Tn) : (tab ts).length = ts.length := by simp [tab]
theorem tab_wr (ts : Tn) : wr (tab ts) = rab (wr ts) := by
  induction ts with
  | nil => rfl
  | cons p ts ih =>
    have e : tab (p :: ts) = tab ts ++ [rp p] := by simp [tab]
    rw [e, wr_append, ih, show wr (p :: ts) = reps p.1 p.2 ++ wr ts from rfl, rab_append, rab_reps]
    simp [wr]
theorem tab_path : ∀ {ts : Tn} {a c : Str}, TPath a ts c → TPath c (tab ts) a
  | [], _, _, h => by cases h; rfl
  | p :: ts, a, c, ⟨h1, h2, b, h3, h4, h5⟩ => by
    have e : tab (p :: ts) = tab ts ++ [rp p] := by simp [tab]
    rw [e]
    refine (tab_path h5).append ⟨h1, ?_, a, rab_path h3, h4.imp_right Eq.symm, rfl⟩
    intro z
    apply h2
    have := rab_len p.2
    have z : rab p.2 = [] := z
    rw [z] at this
    exact List.length_eq_zero_iff.mp this.symm
theorem tab_mem {ts : Tn} {p : Nat × Mr.Row} (h : p ∈ tab ts) : ∃ q ∈ ts, p = rp q := by
  obtain ⟨z, hz, rfl⟩ := List.mem_map.mp (List.mem_reverse.mp h)
  exact ⟨z, hz, rfl⟩
end Mr
namespace K18
open PySem PySem.Spec PyProof.Rows L2 Mr
variable [Wd]
def m_about_1 : SM := (sRet (eIf (tBool (eBin gEq (eVar 1) (eVar 2))) (eVar 0) (eTup (aCons (eBin gIx (eVar 0) (eC (.int 0))) (aCons (eNot (eBin gIx (eVar 0) (eC (.int 1)))) aNil)))))
def m_about : FM := mfn 4 (sSeq (sUnp (fTup 3 (fCons (fName 1) (fCons (fName 2) (fCons (fName 3) fNil)))) (eBin gIx (eVar 0) (eC (.int 0))))
  (sSeq (sIf (tNotM (tVal (eVar 3)))
  (fun _ _ => .bad) sSkip)
  m_about_1))

def m_row_about_1 : SM := (sIf (tNotM (tVal (eBin gIx (eBin gIx (eVar 2) (eC (.int 0))) (eC (.int 2)))))
  (fun _ _ => .bad) sSkip)
def m_row_about_2 : SM := (sRet (eComp [2] (iVal (eUn gRevL (eVar 0))) (fName 2) tYesM (eCall 1 m_about (aCons (eVar 2) aNil))))
def m_row_about : FM := mfn 3 (sSeq (sFor (iEnumM (aCons (eVar 0) aNil)) (fTup 2 (fCons (fName 1) (fCons (fName 2) fNil)))
  m_row_about_1)
  m_row_about_2)

def m_train_about_1 : SM := (sSeq (sApp 2 (eTup (aCons (eVar 3) (aCons (eCall 1 m_row_about (aCons (eVar 4) aNil)) aNil))))
  (sAug 1 (fun i j => i + j) (eBin gMul (eVar 3) (eCB gLen (aCons (eVar 4) aNil)))))
def m_train_about_2 : SM := (sSeq (sFor (iVal (eVar 0)) (fTup 2 (fCons (fName 3) (fCons (fName 4) fNil)))
  m_train_about_1)
  (sFrz [2] (sRet (eUn gRevL (eVar 2)))))
def m_train_about : FM := mfn 6 (sSeq (sFrzA [1] (sPar2 1 2 (eC (.int 0)) (eLst aNil)))
  m_train_about_2)






def m_L_freed_1 : SM := (sApp 1 (eTup (aCons (eVar 2) (aCons (eComp [6] (iVal (eVar 4)) (fName 6) tYesM (eTup (aCons (eTup (aCons (eCB gMinT (aCons (eVar 6) aNil)) (aCons (eCB gMaxT (aCons (eVar 6) aNil)) (aCons (eC (.bool true)) aNil)))) (aCons (eBin gGt (eBin gIx (eVar 6) (eC (.int 0))) (eBin gIx (eVar 6) (eC (.int 1)))) aNil)))) aNil))))
def m_L_freed_2 : SM := (sSeq (sSetS 4 (eComp [5] (iVal (eVar 3)) (fName 5) tYesM (eTup (aCons (eCall 1 m_L_begin (aCons (eVar 5) aNil)) (aCons (eCall 1 m_L_end (aCons (eVar 5) aNil)) aNil)))))
  m_L_freed_1)
def m_L_freed_3 : SM := (sSeq (sFor (iVal (eVar 0)) (fTup 2 (fCons (fName 2) (fCons (fName 3) fNil)))
  m_L_freed_2)
  (sRetO 1))
def m_L_freed : FM := mfn 7 (sSeq (sSet 1 (eLst aNil))
  m_L_freed_3)

def m_L_same_1 : SM := (sRet (eBin gEqN (eComp [5] (iVal (eVar 3)) (fName 5) (tBool (eBin gNe (eCall 2 m_step_at (aCons (eVar 1) (aCons (eVar 5) aNil))) (eCall 2 m_step_at (aCons (eVar 2) (aCons (eVar 5) aNil))))) (eVar 5)) (eLst aNil)))
def m_L_same_2 : SM := (sSeq (sSetS 3 (eBin gAdd (eLst (aCons (eC (.int 0)) (aCons (eBin gSub (eCall 1 m_length (aCons (eVar 1) aNil)) (eC (.int 1))) aNil))) (eComp [4] (iRange (aCons (eC (.int 6)) aNil)) (fName 4) tYesM (eCall 2 m_L_take (aCons (eVar 0) (aCons (eCall 1 m_length (aCons (eVar 1) aNil)) aNil))))))
  m_L_same_1)
def m_L_same : FM := mfn 6 (sSeq (sIf (tOrM (tBool (eBin gNe (eCall 1 m_length (aCons (eVar 1) aNil)) (eCall 1 m_length (aCons (eVar 2) aNil)))) (tOrM (tBool (eBin gNeD (eCall 1 m_carts_of (aCons (eVar 1) aNil)) (eCall 1 m_carts_of (aCons (eVar 2) aNil)))) (tBool (eBin gNe (eCall 1 m_train_ends (aCons (eVar 1) aNil)) (eCall 1 m_train_ends (aCons (eVar 2) aNil))))))
  (sRet (eC (.bool false))) sSkip)
  m_L_same_2)

def m_law_1 : SM := (sIf (tNotM (tVal (eCall 3 m_L_same (aCons (eVar 1) (aCons (eCall 1 m_train_about (aCons (eCall 2 m_joined (aCons (eVar 6) (aCons (eVar 5) aNil))) aNil)) (aCons (eCall 2 m_joined (aCons (eCall 1 m_train_about (aCons (eVar 5) aNil)) (aCons (eVar 4) aNil))) aNil))))))
  (sRet (eC (.bool false))) sSkip)
def m_law_2 : SM := (sSeq (sSetS 5 (eCall 1 m_L_freed (aCons (eLst (aCons (eTup (aCons (eC (.int 3)) (aCons (eCall 4 m_L_round (aCons (eVar 1) (aCons (eVar 3) (aCons (eBin gIx (eCall 1 m_train_ends (aCons (eVar 6) aNil)) (eC (.int 1))) (aCons (eC (.int 3)) aNil))))) aNil))) aNil)) aNil)))
  m_law_1)
def m_law_3 : SM := (sSeq (sIf (tOrM (tBool (eBin gNe (eComp [10] (iVal (eVar 7)) (fName 10) tYesM (eCall 1 m_about (aCons (eCall 1 m_about (aCons (eVar 10) aNil)) aNil))) (eVar 7))) (tBool (eBin gNe (eCall 1 m_row_about (aCons (eVar 7) aNil)) (eComp [10] (iVal (eUn gRevL (eVar 7))) (fName 10) tYesM (eCall 1 m_about (aCons (eVar 10) aNil))))))
  (sRet (eC (.bool false))) sSkip)
  m_law_2)
def m_law_4 : SM := (sSeq (sIf (tOrM (tBool (eBin gNe (eCall 1 m_row_ends (aCons (eCall 1 m_row_about (aCons (eVar 7) aNil)) aNil)) (eUn gRevT (eCall 1 m_row_ends (aCons (eVar 7) aNil))))) (tBool (eBin gNeD (eCall 1 m_carts_in (aCons (eCall 1 m_row_about (aCons (eVar 7) aNil)) aNil)) (eCall 1 m_carts_in (aCons (eVar 7) aNil)))))
  (sRet (eC (.bool false))) sSkip)
  m_law_3)
def m_law_5 : SM := (sSeq (sIf (tOrM (tBool (eBin gNeD (eCall 1 m_carts_of (aCons (eVar 4) aNil)) (eCall 1 m_carts_of (aCons (eVar 6) aNil)))) (tBool (eBin gNe (eCall 1 m_row_about (aCons (eCall 1 m_row_about (aCons (eVar 7) aNil)) aNil)) (eVar 7))))
  (sRet (eC (.bool false))) sSkip)
  m_law_4)
def m_law_6 : SM := (sSeq (sIf (tOrM (tNotM (tVal (eCall 3 m_L_same (aCons (eVar 1) (aCons (eCall 1 m_train_about (aCons (eVar 4) aNil)) (aCons (eVar 6) aNil)))))) (tBool (eBin gNe (eCall 1 m_train_ends (aCons (eVar 4) aNil)) (eUn gRevT (eCall 1 m_train_ends (aCons (eVar 6) aNil))))))
  (sRet (eC (.bool false))) sSkip)
  m_law_5)
def m_law_7 : SM := (sSeq (sFor (iVal (eVar 6)) (fTup 2 (fCons (fName 8) (fCons (fName 9) fNil)))
  (sSetS 7 (eBin gAdd (eVar 7) (eVar 9))))
  (sSeq (sSetS 4 (eCall 1 m_train_about (aCons (eVar 6) aNil)))
  m_law_6))
def m_law_8 : SM := (sSeq (sFrzA [6, 7] (sPar2 6 7 (eCall 1 m_L_freed (aCons (eCall 3 m_L_train (aCons (eVar 1) (aCons (eVar 3) (aCons (eC (.int 4)) aNil)))) aNil)) (eLst aNil)))
  m_law_7)
def m_law_9 : SM := (sSeq (sSetS 3 (eCall 2 m_L_kinds (aCons (eVar 1) (aCons (eBin gAdd (eC (.int 1)) (eCall 2 m_L_take (aCons (eVar 1) (aCons (eC (.int 4)) aNil)))) aNil))))
  m_law_8)
def m_lawS : SM := (sSeq (sFor (iRange (aCons (eC (.int 6)) aNil)) (fName 2)
  m_law_9)
  (sRet (eC (.bool true))))

end K18
namespace K18
open PySem PySem.Spec PyProof.Rows L2 Mr
variable [Wd]
def topS (i : Nat) : Stmt := PySem.Challenge.pw_hookcarts_k18_whole_about_twice.main.body.getD i (.Pass ⟨0, 0, 0, 0⟩)
section
variable {P : Program} {w : World} {K : PySem.W.Frag} {mg : Str → Option Value} {base : Heap} {t_LETTERS t_MOST_LETTERS : Tok}
abbrev s_begin_of : Stmt := topS 6
theorem sc_begin_of : FnScope ["step", "turned", "front", "back", "turns"] ["step"] (defScope s_begin_of) := ⟨rfl, rfl, rfl, by decide +kernel, rfl, by decide +kernel, by decide +kernel⟩
theorem ok_begin_of {fa : Addr} {fd : FuncData} (F : Fun K "begin_of" "begin_of" s_begin_of fa fd) (hm : mg "begin_of" = some (.ref fa)) (bF : Binds K fd ["step"] [])    : FnM P w K mg base 1 "begin_of" 1 m_begin_of :=
  FnM.of F hm bF sc_begin_of rfl fun cdv A out s H E hgu hr => show MSs (Cx.nox (cxOf CX0 P w K mg base ["step", "turned", "front", "back", "turns"] "begin_of" (defScope s_begin_of) fa cdv A out s H E)) (defBody s_begin_of) _ from
    (mss_cons (ms_unp (me_var 0 (pv 0)) (mg_tup (by rfl) (mgs_cons (mg_tup (by rfl) (mgs_cons (mg_name (i := 2) sc_begin_of.nd rfl (by first | exact Or.inl rfl | exact Or.inr rfl)) (mgs_cons (mg_name (i := 3) sc_begin_of.nd rfl (by first | exact Or.inl rfl | exact Or.inr rfl)) (mgs_cons (mg_name (i := 4) sc_begin_of.nd rfl (by first | exact Or.inl rfl | exact Or.inr rfl)) mgs_nil)))) (mgs_cons (mg_name (i := 1) sc_begin_of.nd rfl (by first | exact Or.inl rfl | exact Or.inr rfl)) mgs_nil))))
    (mss_one (ms_ret (me_if (mt_val (me_var 1 (pv 1))) (me_var 3 (pv 3)) (me_var 2 (pv 2))))))
abbrev s_end_of : Stmt := topS 7
theorem sc_end_of : FnScope ["step", "turned", "front", "back", "turns"] ["step"] (defScope s_end_of) := ⟨rfl, rfl, rfl, by decide +kernel, rfl, by decide +kernel, by decide +kernel⟩
theorem ok_end_of {fa : Addr} {fd : FuncData} (F : Fun K "end_of" "end_of" s_end_of fa fd) (hm : mg "end_of" = some (.ref fa)) (bF : Binds K fd ["step"] [])    : FnM P w K mg base 1 "end_of" 1 m_end_of :=
  FnM.of F hm bF sc_end_of rfl fun cdv A out s H E hgu hr => show MSs (Cx.nox (cxOf CX0 P w K mg base ["step", "turned", "front", "back", "turns"] "end_of" (defScope s_end_of) fa cdv A out s H E)) (defBody s_end_of) _ from
    (mss_cons (ms_unp (me_var 0 (pv 0)) (mg_tup (by rfl) (mgs_cons (mg_tup (by rfl) (mgs_cons (mg_name (i := 2) sc_end_of.nd rfl (by first | exact Or.inl rfl | exact Or.inr rfl)) (mgs_cons (mg_name (i := 3) sc_end_of.nd rfl (by first | exact Or.inl rfl | exact Or.inr rfl)) (mgs_cons (mg_name (i := 4) sc_end_of.nd rfl (by first | exact Or.inl rfl | exact Or.inr rfl)) mgs_nil)))) (mgs_cons (mg_name (i := 1) sc_end_of.nd rfl (by first | exact Or.inl rfl | exact Or.inr rfl)) mgs_nil))))
    (mss_one (ms_ret (me_if (mt_val (me_var 1 (pv 1))) (me_var 2 (pv 2)) (me_var 3 (pv 3))))))
abbrev s_about : Stmt := topS 8
theorem sc_about : FnScope ["step", "front", "back", "turns"] ["step"] (defScope s_about) := ⟨rfl, rfl, rfl, by decide +kernel, rfl, by decide +kernel, by decide +kernel⟩
theorem ok_about {fa : Addr} {fd : FuncData} (F : Fun K "about" "about" s_about fa fd) (hm : mg "about" = some (.ref fa)) (bF : Binds K fd ["step"] [])    : FnM P w K mg base 1 "about" 1 m_about :=
  FnM.of F hm bF sc_about rfl fun cdv A out s H E hgu hr => show MSs (Cx.nox (cxOf CX0 P w K mg base ["step", "front", "back", "turns"] "about" (defScope s_about) fa cdv A out s H E)) (defBody s_about) _ from
    (mss_cons (ms_unp (me_ix (me_var 0 (pv 0)) me_int) (mg_tup (by rfl) (mgs_cons (mg_name (i := 1) sc_about.nd rfl (by first | exact Or.inl rfl | exact Or.inr rfl)) (mgs_cons (mg_name (i := 2) sc_about.nd rfl (by first | exact Or.inl rfl | exact Or.inr rfl)) (mgs_cons (mg_name (i := 3) sc_about.nd rfl (by first | exact Or.inl rfl | exact Or.inr rfl)) mgs_nil)))))
    (mss_cons (ms_if (mt_not (mt_val (me_var 3 (pv 3))))
    (mss_one ms_bad) mss_nil)
    (mss_one (ms_ret (me_if (mt_cmp (op_eqM hr.units) (me_var 1 (pv 1)) (me_var 2 (pv 2)) (by first | exact nomark _ | rfl)) (me_var 0 (pv 0)) (me_tup (ma_cons (me_ix (me_var 0 (pv 0)) me_int) (ma_cons (me_not (me_ix (me_var 0 (pv 0)) me_int)) ma_nil))))))))
abbrev s_is_integer : Stmt := topS 10
theorem sc_is_integer : FnScope ["thing"] ["thing"] (defScope s_is_integer) := ⟨rfl, rfl, rfl, by decide +kernel, rfl, by decide +kernel, by decide +kernel⟩
theorem ok_is_integer {fa : Addr} {fd : FuncData} (F : Fun K "is_integer" "is_integer" s_is_integer fa fd) (hm : mg "is_integer" = some (.ref fa)) (bF : Binds K fd ["thing"] []) (hB : Bl mg)   : FnM P w K mg base 1 "is_integer" 1 m_is_integer :=
  FnM.of F hm bF sc_is_integer rfl fun cdv A out s H E hgu hr => show MSs (Cx.nox (cxOf CX0 P w K mg base ["thing"] "is_integer" (defScope s_is_integer) fa cdv A out s H E)) (defBody s_is_integer) _ from
    (mss_one (ms_ret (me_and (me_isi (T := "int") (by rfl) hB.isinstance_ (me_var 0 (pv 0)) (by rfl) hB.int_ PyProof.Rows.boot_int) (me_one (me_not (me_isi (T := "bool") (by rfl) hB.isinstance_ (me_var 0 (pv 0)) (by rfl) hB.bool_ PyProof.Rows.boot_bool))))))
abbrev s_is_number : Stmt := topS 11
theorem sc_is_number : FnScope ["least", "thing"] ["least", "thing"] (defScope s_is_number) := ⟨rfl, rfl, rfl, by decide +kernel, rfl, by decide +kernel, by decide +kernel⟩
theorem ok_is_number {fa : Addr} {fd : FuncData} (F : Fun K "is_number" "is_number" s_is_number fa fd) (hm : mg "is_number" = some (.ref fa)) (bF : Binds K fd ["least", "thing"] [])  (G_is_integer : FnM P w K mg base 1 "is_integer" 1 m_is_integer)  : FnM P w K mg base 2 "is_number" 2 m_is_number :=
  FnM.of F hm bF sc_is_number rfl fun cdv A out s H E hgu hr => show MSs (Cx.nox (cxOf CX0 P w K mg base ["least", "thing"] "is_number" (defScope s_is_number) fa cdv A out s H E)) (defBody s_is_number) _ from
    (mss_one (ms_ret (me_and (me_call G_is_integer hgu (hr.mono (by decide)) (by rfl) (ma_cons (me_var 1 (pv 1)) ma_nil)) (me_one (me_cmp (op_geM hr.units) (me_var 1 (pv 1)) (me_var 0 (pv 0)) (by first | exact nomark _ | rfl))))))
abbrev s_row_ends : Stmt := topS 13
theorem sc_row_ends : FnScope ["row"] ["row"] (defScope s_row_ends) := ⟨rfl, rfl, rfl, by decide +kernel, rfl, by decide +kernel, by decide +kernel⟩
theorem ok_row_ends {fa : Addr} {fd : FuncData} (F : Fun K "row_ends" "row_ends" s_row_ends fa fd) (hm : mg "row_ends" = some (.ref fa)) (bF : Binds K fd ["row"] [])  (G_begin_of : FnM P w K mg base 1 "begin_of" 1 m_begin_of) (G_end_of : FnM P w K mg base 1 "end_of" 1 m_end_of)  : FnM P w K mg base 2 "row_ends" 1 m_row_ends :=
  FnM.of F hm bF sc_row_ends rfl fun cdv A out s H E hgu hr => show MSs (Cx.nox (cxOf CX0 P w K mg base ["row"] "row_ends" (defScope s_row_ends) fa cdv A out s H E)) (defBody s_row_ends) _ from
    (mss_one (ms_ret (me_tup (ma_cons (me_call G_begin_of hgu (hr.mono (by decide)) (by rfl) (ma_cons (me_ix (me_var 0 (pv 0)) me_int) ma_nil)) (ma_cons (me_call G_end_of hgu (hr.mono (by decide)) (by rfl) (ma_cons (me_ix (me_var 0 (pv 0)) (me_un un_negM me_int)) ma_nil)) ma_nil)))))
abbrev s_carts_in : Stmt := topS 14
theorem sc_carts_in : FnScope ["row", "found", "cart", "step"] ["row"] (defScope s_carts_in) := ⟨rfl, rfl, rfl, by decide +kernel, rfl, by decide +kernel, by decide +kernel⟩
theorem ok_carts_in (hW : w = Wd.w) {fa : Addr} {fd : FuncData} (F : Fun K "carts_in" "carts_in" s_carts_in fa fd) (hm : mg "carts_in" = some (.ref fa)) (bF : Binds K fd ["row"] []) (hB : Bl mg)   : FnM P w K mg base 1 "carts_in" 1 m_carts_in :=
  FnM.of F hm bF sc_carts_in rfl fun cdv A out s H E hgu hr => show MSs (Cx.nox (cxOf CX0 P w K mg base ["row", "found", "cart", "step"] "carts_in" (defScope s_carts_in) fa cdv A out s H E)) (defBody s_carts_in) _ from
    (mss_cons (ms_set (i := 1) sc_carts_in.nd rfl (by first | exact Or.inl rfl | exact Or.inr rfl) me_dictN)
    (mss_cons (ms_for PassesOwn.never (by rfl) (mi_val (me_cb (cr_sortedM hr.units) (by rfl) hB.sorted_ PyProof.Rows.boot_sorted (ma_cons (me_lc (by rfl) sc_carts_in.nd (own := [("step", 3)]) (mi_val (me_var 0 (pv 0))) (blkOk_by (N := ["row", "found", "cart", "step"]) (sc := defScope s_carts_in) (by decide +kernel)) (by decide) (fun _ _ _ _ _ => (mg_name (i := 3) sc_carts_in.nd rfl (by first | exact Or.inl rfl | exact Or.inr rfl))) (fun _ _ _ _ _ => mts_nil) (fun _ _ _ _ _ => (me_ix (me_var 3 (pv 3)) me_int))) ma_nil))) (mg_name (i := 2) sc_carts_in.nd rfl (by first | exact Or.inl rfl | exact Or.inr rfl))
    (mss_one (ms_dput (i := 1) hr.u9 hW (pv 1) (me_var 2 (pv 2)) (me_op op_addM (me_dgetV hr.u9 hW (pv 1) (me_var 2 (pv 2)) me_int) me_int))))
    (mss_one (ms_retO (i := 1) (pv 1)))))
abbrev s_row_about : Stmt := topS 15
theorem sc_row_about : FnScope ["row", "index", "step"] ["row"] (defScope s_row_about) := ⟨rfl, rfl, rfl, by decide +kernel, rfl, by decide +kernel, by decide +kernel⟩
theorem ok_row_about {fa : Addr} {fd : FuncData} (F : Fun K "row_about" "row_about" s_row_about fa fd) (hm : mg "row_about" = some (.ref fa)) (bF : Binds K fd ["row"] []) (hB : Bl mg) (G_about : FnM P w K mg base 1 "about" 1 m_about)  : FnM P w K mg base 2 "row_about" 1 m_row_about :=
  FnM.of F hm bF sc_row_about rfl fun cdv A out s H E hgu hr => show MSs (Cx.nox (cxOf CX0 P w K mg base ["row", "index", "step"] "row_about" (defScope s_row_about) fa cdv A out s H E)) (defBody s_row_about) _ from
    (mss_cons (ms_for PassesOwn.never (by rfl) (mi_enum (by rfl) hB.enumerate_ (ma_cons (me_var 0 (pv 0)) ma_nil)) (mg_tup (by rfl) (mgs_cons (mg_name (i := 1) sc_row_about.nd rfl (by first | exact Or.inl rfl | exact Or.inr rfl)) (mgs_cons (mg_name (i := 2) sc_row_about.nd rfl (by first | exact Or.inl rfl | exact Or.inr rfl)) mgs_nil)))
    (mss_one (ms_if (mt_not (mt_val (me_ix (me_ix (me_var 2 (pv 2)) me_int) me_int)))
    (mss_one ms_bad) mss_nil)))
    (mss_one (ms_ret (me_lc (by rfl) sc_row_about.nd (own := [("step", 2)]) (mi_val (me_revL (me_var 0 (pv 0)))) (blkOk_by (N := ["row", "index", "step"]) (sc := defScope s_row_about) (by decide +kernel)) (by decide) (fun _ _ _ _ _ => (mg_name (i := 2) sc_row_about.nd rfl (by first | exact Or.inl rfl | exact Or.inr rfl))) (fun _ _ _ _ _ => mts_nil) (fun _ _ _ _ _ => (me_call G_about hgu (hr.mono (by decide)) (by rfl) (ma_cons (me_var 2 (pv 2)) ma_nil)))))))
abbrev s_train_ends : Stmt := topS 17
theorem sc_train_ends : FnScope ["train"] ["train"] (defScope s_train_ends) := ⟨rfl, rfl, rfl, by decide +kernel, rfl, by decide +kernel, by decide +kernel⟩
theorem ok_train_ends {fa : Addr} {fd : FuncData} (F : Fun K "train_ends" "train_ends" s_train_ends fa fd) (hm : mg "train_ends" = some (.ref fa)) (bF : Binds K fd ["train"] [])  (G_row_ends : FnM P w K mg base 2 "row_ends" 1 m_row_ends)  : FnM P w K mg base 3 "train_ends" 1 m_train_ends :=
  FnM.of F hm bF sc_train_ends rfl fun cdv A out s H E hgu hr => show MSs (Cx.nox (cxOf CX0 P w K mg base ["train"] "train_ends" (defScope s_train_ends) fa cdv A out s H E)) (defBody s_train_ends) _ from
    (mss_one (ms_ret (me_tup (ma_cons (me_ix (me_call G_row_ends hgu (hr.mono (by decide)) (by rfl) (ma_cons (me_ix (me_ix (me_var 0 (pv 0)) me_int) me_int) ma_nil)) me_int) (ma_cons (me_ix (me_call G_row_ends hgu (hr.mono (by decide)) (by rfl) (ma_cons (me_ix (me_ix (me_var 0 (pv 0)) (me_un un_negM me_int)) me_int) ma_nil)) me_int) ma_nil)))))
abbrev s_carts_of : Stmt := topS 18
theorem sc_carts_of : FnScope ["train", "found", "many", "row", "cart", "number"] ["train"] (defScope s_carts_of) := ⟨rfl, rfl, rfl, by decide +kernel, rfl, by decide +kernel, by decide +kernel⟩
theorem ok_carts_of (hW : w = Wd.w) {fa : Addr} {fd : FuncData} (F : Fun K "carts_of" "carts_of" s_carts_of fa fd) (hm : mg "carts_of" = some (.ref fa)) (bF : Binds K fd ["train"] []) (hB : Bl mg) (G_carts_in : FnM P w K mg base 1 "carts_in" 1 m_carts_in)  : FnM P w K mg base 2 "carts_of" 1 m_carts_of :=
  FnM.of F hm bF sc_carts_of rfl fun cdv A out s H E hgu hr => show MSs (Cx.nox (cxOf CX0 P w K mg base ["train", "found", "many", "row", "cart", "number"] "carts_of" (defScope s_carts_of) fa cdv A out s H E)) (defBody s_carts_of) _ from
    (mss_cons (ms_set (i := 1) sc_carts_of.nd rfl (by first | exact Or.inl rfl | exact Or.inr rfl) me_dictN)
    (mss_cons (ms_for PassesOwn.never (by rfl) (mi_val (me_var 0 (pv 0))) (mg_tup (by rfl) (mgs_cons (mg_name (i := 2) sc_carts_of.nd rfl (by first | exact Or.inl rfl | exact Or.inr rfl)) (mgs_cons (mg_name (i := 3) sc_carts_of.nd rfl (by first | exact Or.inl rfl | exact Or.inr rfl)) mgs_nil)))
    (mss_one (ms_for PassesOwn.never (by rfl) (mi_itemsD (me_call G_carts_in hgu (hr.mono (by decide)) (by rfl) (ma_cons (me_var 3 (pv 3)) ma_nil))) (mg_tup (by rfl) (mgs_cons (mg_name (i := 4) sc_carts_of.nd rfl (by first | exact Or.inl rfl | exact Or.inr rfl)) (mgs_cons (mg_name (i := 5) sc_carts_of.nd rfl (by first | exact Or.inl rfl | exact Or.inr rfl)) mgs_nil)))
    (mss_one (ms_dput (i := 1) hr.u9 hW (pv 1) (me_var 4 (pv 4)) (me_op op_addM (me_dgetV hr.u9 hW (pv 1) (me_var 4 (pv 4)) me_int) (me_op op_mulM (me_var 2 (pv 2)) (me_var 5 (pv 5)))))))))
    (mss_one (ms_frz [1] (ms_ret (me_dc hr.u9 hW (by rfl) sc_carts_of.nd (own := [("cart", 4)]) (mi_val (me_cb (cr_sortedDN (by rfl) hr.units) (by rfl) hB.sorted_ PyProof.Rows.boot_sorted (ma_cons (me_var 1 (pv 1)) ma_nil))) (blkOk_by (N := ["train", "found", "many", "row", "cart", "number"]) (sc := defScope s_carts_of) (by decide +kernel)) (by decide) (fun _ _ _ _ _ => (mg_name (i := 4) sc_carts_of.nd rfl (by first | exact Or.inl rfl | exact Or.inr rfl))) (fun _ _ _ _ _ => mts_nil) (fun _ _ _ _ _ => (me_var 4 (pv 4))) (fun _ _ _ _ _ => (me_dixV hr.u9 hW (pv 1) (me_var 4 (pv 4))))))))))
abbrev s_length : Stmt := topS 19
theorem sc_length : FnScope ["train", "many", "row"] ["train"] (defScope s_length) := ⟨rfl, rfl, rfl, by decide +kernel, rfl, by decide +kernel, by decide +kernel⟩
theorem ok_length {fa : Addr} {fd : FuncData} (F : Fun K "length" "length" s_length fa fd) (hm : mg "length" = some (.ref fa)) (bF : Binds K fd ["train"] []) (hB : Bl mg)   : FnM P w K mg base 1 "length" 1 m_length :=
  FnM.of F hm bF sc_length rfl fun cdv A out s H E hgu hr => show MSs (Cx.nox (cxOf CX0 P w K mg base ["train", "many", "row"] "length" (defScope s_length) fa cdv A out s H E)) (defBody s_length) _ from
    (mss_one (ms_ret (me_cb (cr_sumM (by rfl)) (by rfl) hB.sum_ PyProof.Rows.boot_sum (ma_cons (me_lc (by rfl) sc_length.nd (own := [("many", 1), ("row", 2)]) (mi_val (me_var 0 (pv 0))) (blkOk_by (N := ["train", "many", "row"]) (sc := defScope s_length) (by decide +kernel)) (by decide) (fun _ _ _ _ _ => (mg_tup (by rfl) (mgs_cons (mg_name (i := 1) sc_length.nd rfl (by first | exact Or.inl rfl | exact Or.inr rfl)) (mgs_cons (mg_name (i := 2) sc_length.nd rfl (by first | exact Or.inl rfl | exact Or.inr rfl)) mgs_nil)))) (fun _ _ _ _ _ => mts_nil) (fun _ _ _ _ _ => (me_op op_mulM (me_var 1 (pv 1)) (me_cb cr_lenM (by rfl) hB.len_ PySem.boot_len (ma_cons (me_var 2 (pv 2)) ma_nil))))) ma_nil))))
abbrev s_step_at : Stmt := topS 20
theorem sc_step_at : FnScope ["train", "index", "rest", "many", "row"] ["train", "index"] (defScope s_step_at) := ⟨rfl, rfl, rfl, by decide +kernel, rfl, by decide +kernel, by decide +kernel⟩
theorem ok_step_at {fa : Addr} {fd : FuncData} (F : Fun K "step_at" "step_at" s_step_at fa fd) (hm : mg "step_at" = some (.ref fa)) (bF : Binds K fd ["train", "index"] []) (hB : Bl mg) (G_is_number : FnM P w K mg base 2 "is_number" 2 m_is_number)  : FnM P w K mg base 3 "step_at" 2 m_step_at :=
  FnM.of F hm bF sc_step_at rfl fun cdv A out s H E hgu hr => show MSs (Cx.nox (cxOf CX0 P w K mg base ["train", "index", "rest", "many", "row"] "step_at" (defScope s_step_at) fa cdv A out s H E)) (defBody s_step_at) _ from
    (mss_cons (ms_if (mt_val (me_call G_is_number hgu (hr.mono (by decide)) (by rfl) (ma_cons me_int (ma_cons (me_var 1 (pv 1)) ma_nil))))
    (mss_cons (ms_setS (i := 2) sc_step_at.nd rfl (by first | exact Or.inl rfl | exact Or.inr rfl) (me_var 1 (pv 1)))
    (mss_one (ms_for PassesOwn.never (by rfl) (mi_val (me_var 0 (pv 0))) (mg_tup (by rfl) (mgs_cons (mg_name (i := 3) sc_step_at.nd rfl (by first | exact Or.inl rfl | exact Or.inr rfl)) (mgs_cons (mg_name (i := 4) sc_step_at.nd rfl (by first | exact Or.inl rfl | exact Or.inr rfl)) mgs_nil)))
    (mss_cons (ms_if (mt_cmp (op_ltM hr.units) (me_var 2 (pv 2)) (me_op op_mulM (me_var 3 (pv 3)) (me_cb cr_lenM (by rfl) hB.len_ PySem.boot_len (ma_cons (me_var 4 (pv 4)) ma_nil))) (by first | exact nomark _ | rfl))
    (mss_one (ms_ret (me_ix (me_var 4 (pv 4)) (me_op op_modM (me_var 2 (pv 2)) (me_cb cr_lenM (by rfl) hB.len_ PySem.boot_len (ma_cons (me_var 4 (pv 4)) ma_nil)))))) mss_nil)
    (mss_one (ms_augS (i := 2) sc_step_at.nd rfl (by first | exact Or.inl rfl | exact Or.inr rfl) (me_op op_mulM (me_var 3 (pv 3)) (me_cb cr_lenM (by rfl) hB.len_ PySem.boot_len (ma_cons (me_var 4 (pv 4)) ma_nil))))))))) mss_nil)
    (mss_one ms_bad))
abbrev s_copied : Stmt := topS 21
theorem sc_copied : FnScope ["train", "many", "row"] ["train"] (defScope s_copied) := ⟨rfl, rfl, rfl, by decide +kernel, rfl, by decide +kernel, by decide +kernel⟩
theorem ok_copied {fa : Addr} {fd : FuncData} (F : Fun K "copied" "copied" s_copied fa fd) (hm : mg "copied" = some (.ref fa)) (bF : Binds K fd ["train"] []) (hB : Bl mg)   : FnM P w K mg base 1 "copied" 1 m_copied :=
  FnM.of F hm bF sc_copied rfl fun cdv A out s H E hgu hr => show MSs (Cx.nox (cxOf CX0 P w K mg base ["train", "many", "row"] "copied" (defScope s_copied) fa cdv A out s H E)) (defBody s_copied) _ from
    (mss_one (ms_ret (me_lc (by rfl) sc_copied.nd (own := [("many", 1), ("row", 2)]) (mi_val (me_var 0 (pv 0))) (blkOk_by (N := ["train", "many", "row"]) (sc := defScope s_copied) (by decide +kernel)) (by decide) (fun _ _ _ _ _ => (mg_tup (by rfl) (mgs_cons (mg_name (i := 1) sc_copied.nd rfl (by first | exact Or.inl rfl | exact Or.inr rfl)) (mgs_cons (mg_name (i := 2) sc_copied.nd rfl (by first | exact Or.inl rfl | exact Or.inr rfl)) mgs_nil)))) (fun _ _ _ _ _ => mts_nil) (fun _ _ _ _ _ => (me_tup (ma_cons (me_var 1 (pv 1)) (ma_cons (me_ct cr_listM (by rfl) hB.list_ PyProof.Rows.boot_list (ma_cons (me_var 2 (pv 2)) ma_nil)) ma_nil)))))))
abbrev s_joined : Stmt := topS 22
theorem sc_joined : FnScope ["one", "other"] ["one", "other"] (defScope s_joined) := ⟨rfl, rfl, rfl, by decide +kernel, rfl, by decide +kernel, by decide +kernel⟩
theorem ok_joined {fa : Addr} {fd : FuncData} (F : Fun K "joined" "joined" s_joined fa fd) (hm : mg "joined" = some (.ref fa)) (bF : Binds K fd ["one", "other"] [])  (G_train_ends : FnM P w K mg base 3 "train_ends" 1 m_train_ends) (G_copied : FnM P w K mg base 1 "copied" 1 m_copied)  : FnM P w K mg base 4 "joined" 2 m_joined :=
  FnM.of F hm bF sc_joined rfl fun cdv A out s H E hgu hr => show MSs (Cx.nox (cxOf CX0 P w K mg base ["one", "other"] "joined" (defScope s_joined) fa cdv A out s H E)) (defBody s_joined) _ from
    (mss_cons (ms_if (mt_cmp (op_neM hr.units) (me_ix (me_call G_train_ends hgu (hr.mono (by decide)) (by rfl) (ma_cons (me_var 0 (pv 0)) ma_nil)) me_int) (me_ix (me_call G_train_ends hgu (hr.mono (by decide)) (by rfl) (ma_cons (me_var 1 (pv 1)) ma_nil)) me_int) (by first | exact nomark _ | rfl))
    (mss_one ms_bad) mss_nil)
    (mss_one (ms_ret (me_op op_addM (me_call G_copied hgu (hr.mono (by decide)) (by rfl) (ma_cons (me_var 0 (pv 0)) ma_nil)) (me_call G_copied hgu (hr.mono (by decide)) (by rfl) (ma_cons (me_var 1 (pv 1)) ma_nil))))))
abbrev s_train_about : Stmt := topS 23
theorem sc_train_about : FnScope ["train", "ahead", "found", "many", "row", "error"] ["train"] (defScope s_train_about) := ⟨rfl, rfl, rfl, by decide +kernel, rfl, by decide +kernel, by decide +kernel⟩
theorem ok_train_about {fa : Addr} {fd : FuncData} (F : Fun K "train_about" "train_about" s_train_about fa fd) (hm : mg "train_about" = some (.ref fa)) (bF : Binds K fd ["train"] []) (hB : Bl mg) (G_row_about : FnM P w K mg base 2 "row_about" 1 m_row_about)  : FnM P w K mg base 3 "train_about" 1 m_train_about :=
  FnM.of F hm bF sc_train_about rfl fun cdv A out s H E hgu hr => show MSs (Cx.nox (cxOf CX0 P w K mg base ["train", "ahead", "found", "many", "row", "error"] "train_about" (defScope s_train_about) fa cdv A out s H E)) (defBody s_train_about) _ from
    (mss_cons (ms_frzA [1] (ms_par2 (i := 1) (j := 2) (by rfl) sc_train_about.nd rfl rfl (by decide) (by rfl) (by rfl) me_int (me_lst ma_nil) (by rfl)))
    (mss_cons (ms_for PassesOwn.never (by rfl) (mi_val (me_var 0 (pv 0))) (mg_tup (by rfl) (mgs_cons (mg_name (i := 3) sc_train_about.nd rfl (by first | exact Or.inl rfl | exact Or.inr rfl)) (mgs_cons (mg_name (i := 4) sc_train_about.nd rfl (by first | exact Or.inl rfl | exact Or.inr rfl)) mgs_nil)))
    (mss_cons (ms_thru (mss_one (ms_app (i := 2) (pv 2) (me_tup (ma_cons (me_var 3 (pv 3)) (ma_cons (me_call G_row_about hgu (hr.mono (by decide)) (by rfl) (ma_cons (me_var 4 (pv 4)) ma_nil)) ma_nil))))))
    (mss_one (ms_aug (i := 1) sc_train_about.nd rfl (by first | exact Or.inl rfl | exact Or.inr rfl) (me_op op_mulM (me_var 3 (pv 3)) (me_cb cr_lenM (by rfl) hB.len_ PySem.boot_len (ma_cons (me_var 4 (pv 4)) ma_nil)))))))
    (mss_one (ms_frz [2] (ms_ret (me_revL (me_var 2 (pv 2))))))))
abbrev s_L_take : Stmt := topS 26
theorem sc_L_take : FnScope ["_law_bag_here", "_law_many", "_law_early", "_law_second", "_law_cell", "_law_mixed", "_law_drawn"] ["_law_bag_here", "_law_many"] (defScope s_L_take) := ⟨rfl, rfl, rfl, by decide +kernel, rfl, by decide +kernel, by decide +kernel⟩
theorem ok_L_take {fa : Addr} {fd : FuncData} (F : Fun K "_law_take" "_law_take" s_L_take fa fd) (hm : mg "_law_take" = some (.ref fa)) (bF : Binds K fd ["_law_bag_here", "_law_many"] []) (hB : Bl mg)   : FnM P w K mg base 1 "_law_take" 2 m_L_take :=
  FnM.of F hm bF sc_L_take rfl fun cdv A out s H E hgu hr => show MSs (Cx.nox (cxOf CX0 P w K mg base ["_law_bag_here", "_law_many", "_law_early", "_law_second", "_law_cell", "_law_mixed", "_law_drawn"] "_law_take" (defScope s_L_take) fa cdv A out s H E)) (defBody s_L_take) _ from
    (mss_cons (ms_if (mt_cmp (op_eqM hr.units) (me_bg (j := 0) (k := 0) (pv 0)) me_int (by first | exact nomark _ | rfl))
    (mss_cons (ms_setS (i := 4) sc_L_take.nd rfl (by first | exact Or.inl rfl | exact Or.inr rfl) me_int)
    (mss_cons (ms_if (mt_cmp (op_ltM hr.units) (me_bg (j := 0) (k := 2) (pv 0)) (me_cb cr_lenM (by rfl) hB.len_ PySem.boot_len (ma_cons (me_bg (j := 0) (k := 3) (pv 0)) ma_nil)) (by first | exact nomark _ | rfl))
    (mss_one (ms_setS (i := 4) sc_L_take.nd rfl (by first | exact Or.inl rfl | exact Or.inr rfl) (me_ix (me_bg (j := 0) (k := 3) (pv 0)) (me_bg (j := 0) (k := 2) (pv 0))))) mss_nil)
    (mss_cons (ms_bgAdd (j := 0) (k := 2) (pv 0) me_int)
    (mss_cons (ms_if (mt_cmp (op_geM hr.units) (me_var 4 (pv 4)) me_int (by first | exact nomark _ | rfl))
    (mss_one (ms_bg (j := 0) (k := 0) (pv 0) (me_var 4 (pv 4)))) mss_nil)
    (mss_cons (ms_setS (i := 5) sc_L_take.nd rfl (by first | exact Or.inl rfl | exact Or.inr rfl) (me_op op_addM (me_op op_addM (me_op op_mulM (me_bg (j := 0) (k := 1) (pv 0)) me_int) (me_op op_modM (me_ct cr_intM (by rfl) hB.int_ PyProof.Rows.boot_int (ma_cons (me_var 4 (pv 4)) ma_nil)) me_int)) (me_op op_mulM me_int (me_bg (j := 0) (k := 2) (pv 0)))))
    (mss_one (ms_bg (j := 0) (k := 1) (pv 0) (me_op op_modM (me_ct cr_intM (by rfl) hB.int_ PyProof.Rows.boot_int (ma_cons (me_var 5 (pv 5)) ma_nil)) me_int)))))))) mss_nil)
    (mss_cons (ms_if (mt_cmp (op_gtM hr.units) (me_bg (j := 0) (k := 0) (pv 0)) me_int (by first | exact nomark _ | rfl))
    (mss_cons (ms_setS (i := 6) sc_L_take.nd rfl (by first | exact Or.inl rfl | exact Or.inr rfl) (me_op op_modM (me_ct cr_intM (by rfl) hB.int_ PyProof.Rows.boot_int (ma_cons (me_bg (j := 0) (k := 0) (pv 0)) ma_nil)) (me_var 1 (pv 1))))
    (mss_cons (ms_bg (j := 0) (k := 0) (pv 0) (me_op op_fdivM (me_bg (j := 0) (k := 0) (pv 0)) (me_var 1 (pv 1))))
    (mss_one (ms_ret (me_var 6 (pv 6)))))) mss_nil)
    (mss_cons (ms_setS (i := 2) sc_L_take.nd rfl (by first | exact Or.inl rfl | exact Or.inr rfl) (me_op op_modM (me_ct cr_intM (by rfl) hB.int_ PyProof.Rows.boot_int (ma_cons (me_op op_mulM (me_op op_addM (me_bg (j := 0) (k := 1) (pv 0)) me_int) me_int) ma_nil)) me_int))
    (mss_cons (ms_setS (i := 3) sc_L_take.nd rfl (by first | exact Or.inl rfl | exact Or.inr rfl) (me_op op_modM (me_ct cr_intM (by rfl) hB.int_ PyProof.Rows.boot_int (ma_cons (me_op op_mulM (me_op op_modM (me_ct cr_intM (by rfl) hB.int_ PyProof.Rows.boot_int (ma_cons (me_op op_mulM (me_var 2 (pv 2)) (me_var 2 (pv 2))) ma_nil)) me_int) me_int) ma_nil)) me_int))
    (mss_one (ms_ret (me_op op_modM (me_ct cr_intM (by rfl) hB.int_ PyProof.Rows.boot_int (ma_cons (me_op op_fdivM (me_var 3 (pv 3)) me_int) ma_nil)) (me_var 1 (pv 1)))))))))
abbrev s_L_one : Stmt := topS 27
theorem sc_L_one : FnScope ["_law_bag_here", "_law_things"] ["_law_bag_here", "_law_things"] (defScope s_L_one) := ⟨rfl, rfl, rfl, by decide +kernel, rfl, by decide +kernel, by decide +kernel⟩
theorem ok_L_one {fa : Addr} {fd : FuncData} (F : Fun K "_law_one" "_law_one" s_L_one fa fd) (hm : mg "_law_one" = some (.ref fa)) (bF : Binds K fd ["_law_bag_here", "_law_things"] []) (hB : Bl mg) (G_L_take : FnM P w K mg base 1 "_law_take" 2 m_L_take)  : FnM P w K mg base 2 "_law_one" 2 m_L_one :=
  FnM.of F hm bF sc_L_one rfl fun cdv A out s H E hgu hr => show MSs (Cx.nox (cxOf CX0 P w K mg base ["_law_bag_here", "_law_things"] "_law_one" (defScope s_L_one) fa cdv A out s H E)) (defBody s_L_one) _ from
    (mss_one (ms_ret (me_ix (me_var 1 (pv 1)) (me_call G_L_take hgu (hr.mono (by decide)) (by rfl) (ma_cons (me_var 0 (pv 0)) (ma_cons (me_cb cr_lenM (by rfl) hB.len_ PySem.boot_len (ma_cons (me_var 1 (pv 1)) ma_nil)) ma_nil))))))
abbrev s_L_kinds : Stmt := topS 28
theorem sc_L_kinds : FnScope ["_law_bag_here", "_law_many", "_law_menu", "_law_stem", "_law_way", "_law_turn", "_law_k"] ["_law_bag_here", "_law_many"] (defScope s_L_kinds) := ⟨rfl, rfl, rfl, by decide +kernel, rfl, by decide +kernel, by decide +kernel⟩
theorem ok_L_kinds {fa : Addr} {fd : FuncData} (F : Fun K "_law_kinds" "_law_kinds" s_L_kinds fa fd) (hm : mg "_law_kinds" = some (.ref fa)) (bF : Binds K fd ["_law_bag_here", "_law_many"] []) (hB : Bl mg) (G_L_take : FnM P w K mg base 1 "_law_take" 2 m_L_take)  : FnM P w K mg base 2 "_law_kinds" 2 m_L_kinds :=
  FnM.of F hm bF sc_L_kinds rfl fun cdv A out s H E hgu hr => show MSs (Cx.nox (cxOf CX0 P w K mg base ["_law_bag_here", "_law_many", "_law_menu", "_law_stem", "_law_way", "_law_turn", "_law_k"] "_law_kinds" (defScope s_L_kinds) fa cdv A out s H E)) (defBody s_L_kinds) _ from
    (mss_cons (ms_unp (me_tup (ma_cons (me_call G_L_take hgu (hr.mono (by decide)) (by rfl) (ma_cons (me_var 0 (pv 0)) (ma_cons me_int ma_nil))) (ma_cons (me_call G_L_take hgu (hr.mono (by decide)) (by rfl) (ma_cons (me_var 0 (pv 0)) (ma_cons me_int ma_nil))) ma_nil))) (mg_tup (by rfl) (mgs_cons (mg_name (i := 4) sc_L_kinds.nd rfl (by first | exact Or.inl rfl | exact Or.inr rfl)) (mgs_cons (mg_name (i := 5) sc_L_kinds.nd rfl (by first | exact Or.inl rfl | exact Or.inr rfl)) mgs_nil))))
    (mss_cons (ms_setS (i := 2) sc_L_kinds.nd rfl (by first | exact Or.inl rfl | exact Or.inr rfl) (me_lst (ma_cons me_str (ma_cons me_str (ma_cons me_str (ma_cons me_str (ma_cons me_str (ma_cons me_str (ma_cons me_str (ma_cons me_str (ma_cons me_str (ma_cons me_str (ma_cons me_str (ma_cons me_str ma_nil))))))))))))))
    (mss_cons (ms_if (mt_cmp (op_eqM hr.units) (me_var 4 (pv 4)) me_int (by first | exact nomark _ | rfl))
    (mss_one (ms_ret (me_cb (cr_sortedM hr.units) (by rfl) hB.sorted_ PyProof.Rows.boot_sorted (ma_cons (me_sl (me_op op_addM (me_var 2 (pv 2)) (me_var 2 (pv 2))) (mo_some (me_var 5 (pv 5))) (mo_some (me_op op_addM (me_var 5 (pv 5)) (me_var 1 (pv 1))))) ma_nil)))) mss_nil)
    (mss_cons (ms_if (mt_cmp (op_eqM hr.units) (me_var 4 (pv 4)) me_int (by first | exact nomark _ | rfl))
    (mss_one (ms_ret (me_sl (me_lst (ma_cons me_str (ma_cons me_str (ma_cons me_str (ma_cons me_str (ma_cons me_str (ma_cons me_str (ma_cons me_str (ma_cons me_str ma_nil))))))))) mo_none (mo_some (me_var 1 (pv 1)))))) mss_nil)
    (mss_cons (ms_setS (i := 3) sc_L_kinds.nd rfl (by first | exact Or.inl rfl | exact Or.inr rfl) (me_sl me_str mo_none (mo_some (me_call G_L_take hgu (hr.mono (by decide)) (by rfl) (ma_cons (me_var 0 (pv 0)) (ma_cons me_int ma_nil))))))
    (mss_one (ms_ret (me_cb (cr_sortedM hr.units) (by rfl) hB.sorted_ PyProof.Rows.boot_sorted (ma_cons (me_lc (by rfl) sc_L_kinds.nd (own := [("_law_k", 6)]) (mi_range (by rfl) hB.range_ (ma_cons (me_var 1 (pv 1)) ma_nil)) (blkOk_by (N := ["_law_bag_here", "_law_many", "_law_menu", "_law_stem", "_law_way", "_law_turn", "_law_k"]) (sc := defScope s_L_kinds) (by decide +kernel)) (by decide) (fun _ _ _ _ _ => (mg_name (i := 6) sc_L_kinds.nd rfl (by first | exact Or.inl rfl | exact Or.inr rfl))) (fun _ _ _ _ _ => mts_nil) (fun _ _ _ _ _ => (me_op op_addM (me_var 3 (pv 3)) (me_ix me_str (me_op op_modM (me_ct cr_intM (by rfl) hB.int_ PyProof.Rows.boot_int (ma_cons (me_op op_addM (me_op op_mulM me_int (me_var 5 (pv 5))) (me_op op_mulM me_int (me_var 6 (pv 6)))) ma_nil)) me_int))))) ma_nil)))))))))
abbrev s_L_number : Stmt := topS 29
theorem sc_L_number : FnScope ["_law_bag_here", "_law_way"] ["_law_bag_here"] (defScope s_L_number) := ⟨rfl, rfl, rfl, by decide +kernel, rfl, by decide +kernel, by decide +kernel⟩
theorem ok_L_number {fa : Addr} {fd : FuncData} (F : Fun K "_law_number" "_law_number" s_L_number fa fd) (hm : mg "_law_number" = some (.ref fa)) (bF : Binds K fd ["_law_bag_here"] [])  (G_L_take : FnM P w K mg base 1 "_law_take" 2 m_L_take)  : FnM P w K mg base 2 "_law_number" 1 m_L_number :=
  FnM.of F hm bF sc_L_number rfl fun cdv A out s H E hgu hr => show MSs (Cx.nox (cxOf CX0 P w K mg base ["_law_bag_here", "_law_way"] "_law_number" (defScope s_L_number) fa cdv A out s H E)) (defBody s_L_number) _ from
    (mss_cons (ms_setS (i := 1) sc_L_number.nd rfl (by first | exact Or.inl rfl | exact Or.inr rfl) (me_call G_L_take hgu (hr.mono (by decide)) (by rfl) (ma_cons (me_var 0 (pv 0)) (ma_cons me_int ma_nil))))
    (mss_cons (ms_if (mt_cmp (op_ltM hr.units) (me_var 1 (pv 1)) me_int (by first | exact nomark _ | rfl))
    (mss_one (ms_ret (me_op op_addM me_int (me_call G_L_take hgu (hr.mono (by decide)) (by rfl) (ma_cons (me_var 0 (pv 0)) (ma_cons (me_ix (me_lst (ma_cons me_int (ma_cons me_int (ma_cons me_int (ma_cons me_int (ma_cons me_int (ma_cons me_int ma_nil))))))) (me_var 1 (pv 1))) ma_nil)))))) mss_nil)
    (mss_one (ms_ret (me_op op_addM (me_ix (me_lst (ma_cons (me_op op_powM me_int me_int) (ma_cons (me_op op_powM me_int me_int) (ma_cons (me_op op_powM me_int me_int) (ma_cons (me_op op_powM me_int me_int) ma_nil))))) (me_call G_L_take hgu (hr.mono (by decide)) (by rfl) (ma_cons (me_var 0 (pv 0)) (ma_cons me_int ma_nil)))) (me_call G_L_take hgu (hr.mono (by decide)) (by rfl) (ma_cons (me_var 0 (pv 0)) (ma_cons me_int ma_nil))))))))
abbrev s_L_begin : Stmt := topS 30
theorem sc_L_begin : FnScope ["_law_step"] ["_law_step"] (defScope s_L_begin) := ⟨rfl, rfl, rfl, by decide +kernel, rfl, by decide +kernel, by decide +kernel⟩
theorem ok_L_begin {fa : Addr} {fd : FuncData} (F : Fun K "_law_begin" "_law_begin" s_L_begin fa fd) (hm : mg "_law_begin" = some (.ref fa)) (bF : Binds K fd ["_law_step"] [])    : FnM P w K mg base 1 "_law_begin" 1 m_L_begin :=
  FnM.of F hm bF sc_L_begin rfl fun cdv A out s H E hgu hr => show MSs (Cx.nox (cxOf CX0 P w K mg base ["_law_step"] "_law_begin" (defScope s_L_begin) fa cdv A out s H E)) (defBody s_L_begin) _ from
    (mss_one (ms_ret (me_if (mt_val (me_ix (me_var 0 (pv 0)) me_int)) (me_ix (me_ix (me_var 0 (pv 0)) me_int) me_int) (me_ix (me_ix (me_var 0 (pv 0)) me_int) me_int))))
abbrev s_L_end : Stmt := topS 31
theorem sc_L_end : FnScope ["_law_step"] ["_law_step"] (defScope s_L_end) := ⟨rfl, rfl, rfl, by decide +kernel, rfl, by decide +kernel, by decide +kernel⟩
theorem ok_L_end {fa : Addr} {fd : FuncData} (F : Fun K "_law_end" "_law_end" s_L_end fa fd) (hm : mg "_law_end" = some (.ref fa)) (bF : Binds K fd ["_law_step"] [])    : FnM P w K mg base 1 "_law_end" 1 m_L_end :=
  FnM.of F hm bF sc_L_end rfl fun cdv A out s H E hgu hr => show MSs (Cx.nox (cxOf CX0 P w K mg base ["_law_step"] "_law_end" (defScope s_L_end) fa cdv A out s H E)) (defBody s_L_end) _ from
    (mss_one (ms_ret (me_if (mt_val (me_ix (me_var 0 (pv 0)) me_int)) (me_ix (me_ix (me_var 0 (pv 0)) me_int) me_int) (me_ix (me_ix (me_var 0 (pv 0)) me_int) me_int))))
abbrev s_L_step_on : Stmt := topS 32
theorem sc_L_step_on : FnScope ["_law_bag_here", "_law_here", "_law_there"] ["_law_bag_here", "_law_here", "_law_there"] (defScope s_L_step_on) := ⟨rfl, rfl, rfl, by decide +kernel, rfl, by decide +kernel, by decide +kernel⟩
theorem ok_L_step_on {fa : Addr} {fd : FuncData} (F : Fun K "_law_step_on" "_law_step_on" s_L_step_on fa fd) (hm : mg "_law_step_on" = some (.ref fa)) (bF : Binds K fd ["_law_bag_here", "_law_here", "_law_there"] []) (hB : Bl mg) (G_L_take : FnM P w K mg base 1 "_law_take" 2 m_L_take)  : FnM P w K mg base 2 "_law_step_on" 3 m_L_step_on :=
  FnM.of F hm bF sc_L_step_on rfl fun cdv A out s H E hgu hr => show MSs (Cx.nox (cxOf CX0 P w K mg base ["_law_bag_here", "_law_here", "_law_there"] "_law_step_on" (defScope s_L_step_on) fa cdv A out s H E)) (defBody s_L_step_on) _ from
    (mss_cons (ms_if (mt_cmp (op_eqM hr.units) (me_call G_L_take hgu (hr.mono (by decide)) (by rfl) (ma_cons (me_var 0 (pv 0)) (ma_cons me_int ma_nil))) me_int (by first | exact nomark _ | rfl))
    (mss_one (ms_ret (me_tup (ma_cons (me_tup (ma_cons (me_var 1 (pv 1)) (ma_cons (me_var 2 (pv 2)) (ma_cons me_bl ma_nil)))) (ma_cons me_bl ma_nil))))) mss_nil)
    (mss_one (ms_ret (me_tup (ma_cons (me_tup (ma_cons (me_cb (cr_minM (by rfl) hr.units) (by rfl) hB.min_ PyProof.Rows.boot_min (ma_cons (me_var 1 (pv 1)) (ma_cons (me_var 2 (pv 2)) ma_nil))) (ma_cons (me_cb (cr_maxM (by rfl) hr.units) (by rfl) hB.max_ PyProof.Rows.boot_max (ma_cons (me_var 1 (pv 1)) (ma_cons (me_var 2 (pv 2)) ma_nil))) (ma_cons me_bl ma_nil)))) (ma_cons (me_cmp (op_ltM hr.units) (me_var 2 (pv 2)) (me_var 1 (pv 1)) (by first | exact nomark _ | rfl)) ma_nil))))))
abbrev s_L_row_from : Stmt := topS 33
theorem sc_L_row_from : FnScope ["_law_bag_here", "_law_kinds_here", "_law_here", "_law_upto", "_law_found", "_law_k", "_law_there"] ["_law_bag_here", "_law_kinds_here", "_law_here", "_law_upto"] (defScope s_L_row_from) := ⟨rfl, rfl, rfl, by decide +kernel, rfl, by decide +kernel, by decide +kernel⟩
theorem ok_L_row_from {fa : Addr} {fd : FuncData} (F : Fun K "_law_row_from" "_law_row_from" s_L_row_from fa fd) (hm : mg "_law_row_from" = some (.ref fa)) (bF : Binds K fd ["_law_bag_here", "_law_kinds_here", "_law_here", "_law_upto"] []) (hB : Bl mg) (G_L_take : FnM P w K mg base 1 "_law_take" 2 m_L_take) (G_L_one : FnM P w K mg base 2 "_law_one" 2 m_L_one) (G_L_step_on : FnM P w K mg base 2 "_law_step_on" 3 m_L_step_on)  : FnM P w K mg base 3 "_law_row_from" 4 m_L_row_from :=
  FnM.of F hm bF sc_L_row_from rfl fun cdv A out s H E hgu hr => show MSs (Cx.nox (cxOf CX0 P w K mg base ["_law_bag_here", "_law_kinds_here", "_law_here", "_law_upto", "_law_found", "_law_k", "_law_there"] "_law_row_from" (defScope s_L_row_from) fa cdv A out s H E)) (defBody s_L_row_from) _ from
    (mss_cons (ms_set (i := 4) sc_L_row_from.nd rfl (by first | exact Or.inl rfl | exact Or.inr rfl) (me_lst ma_nil))
    (mss_cons (ms_for PassesOwn.never (by rfl) (mi_range (by rfl) hB.range_ (ma_cons (me_op op_addM me_int (me_call G_L_take hgu (hr.mono (by decide)) (by rfl) (ma_cons (me_var 0 (pv 0)) (ma_cons (me_var 3 (pv 3)) ma_nil)))) ma_nil)) (mg_name (i := 5) sc_L_row_from.nd rfl (by first | exact Or.inl rfl | exact Or.inr rfl))
    (mss_cons (ms_setS (i := 6) sc_L_row_from.nd rfl (by first | exact Or.inl rfl | exact Or.inr rfl) (me_call G_L_one hgu (hr.mono (by decide)) (by rfl) (ma_cons (me_var 0 (pv 0)) (ma_cons (me_var 1 (pv 1)) ma_nil))))
    (mss_cons (ms_app (i := 4) (pv 4) (me_call G_L_step_on hgu (hr.mono (by decide)) (by rfl) (ma_cons (me_var 0 (pv 0)) (ma_cons (me_var 2 (pv 2)) (ma_cons (me_var 6 (pv 6)) ma_nil)))))
    (mss_one (ms_setS (i := 2) sc_L_row_from.nd rfl (by first | exact Or.inl rfl | exact Or.inr rfl) (me_var 6 (pv 6)))))))
    (mss_one (ms_retO (i := 4) (pv 4)))))
abbrev s_L_round : Stmt := topS 34
theorem sc_L_round : FnScope ["_law_bag_here", "_law_kinds_here", "_law_here", "_law_upto", "_law_found"] ["_law_bag_here", "_law_kinds_here", "_law_here", "_law_upto"] (defScope s_L_round) := ⟨rfl, rfl, rfl, by decide +kernel, rfl, by decide +kernel, by decide +kernel⟩
theorem ok_L_round {fa : Addr} {fd : FuncData} (F : Fun K "_law_round" "_law_round" s_L_round fa fd) (hm : mg "_law_round" = some (.ref fa)) (bF : Binds K fd ["_law_bag_here", "_law_kinds_here", "_law_here", "_law_upto"] [])  (G_L_row_from : FnM P w K mg base 3 "_law_row_from" 4 m_L_row_from) (G_L_end : FnM P w K mg base 1 "_law_end" 1 m_L_end) (G_L_step_on : FnM P w K mg base 2 "_law_step_on" 3 m_L_step_on)  : FnM P w K mg base 4 "_law_round" 4 m_L_round :=
  FnM.of F hm bF sc_L_round rfl fun cdv A out s H E hgu hr => show MSs (Cx.nox (cxOf CX0 P w K mg base ["_law_bag_here", "_law_kinds_here", "_law_here", "_law_upto", "_law_found"] "_law_round" (defScope s_L_round) fa cdv A out s H E)) (defBody s_L_round) _ from
    (mss_cons (ms_set (i := 4) sc_L_round.nd rfl (by first | exact Or.inl rfl | exact Or.inr rfl) (me_call G_L_row_from hgu (hr.mono (by decide)) (by rfl) (ma_cons (me_var 0 (pv 0)) (ma_cons (me_var 1 (pv 1)) (ma_cons (me_var 2 (pv 2)) (ma_cons (me_var 3 (pv 3)) ma_nil))))))
    (mss_cons (ms_if (mt_cmp (op_neM hr.units) (me_call G_L_end hgu (hr.mono (by decide)) (by rfl) (ma_cons (me_ixV (pv 4) (me_un un_negM me_int)) ma_nil)) (me_var 2 (pv 2)) (by first | exact nomark _ | rfl))
    (mss_one (ms_app (i := 4) (pv 4) (me_call G_L_step_on hgu (hr.mono (by decide)) (by rfl) (ma_cons (me_var 0 (pv 0)) (ma_cons (me_call G_L_end hgu (hr.mono (by decide)) (by rfl) (ma_cons (me_ixV (pv 4) (me_un un_negM me_int)) ma_nil)) (ma_cons (me_var 2 (pv 2)) ma_nil)))))) mss_nil)
    (mss_one (ms_retO (i := 4) (pv 4)))))
abbrev s_L_train : Stmt := topS 35
theorem sc_L_train : FnScope ["_law_bag_here", "_law_kinds_here", "_law_upto", "_law_k", "_law_here", "_law_found"] ["_law_bag_here", "_law_kinds_here", "_law_upto"] (defScope s_L_train) := ⟨rfl, rfl, rfl, by decide +kernel, rfl, by decide +kernel, by decide +kernel⟩
theorem ok_L_train {fa : Addr} {fd : FuncData} (F : Fun K "_law_train" "_law_train" s_L_train fa fd) (hm : mg "_law_train" = some (.ref fa)) (bF : Binds K fd ["_law_bag_here", "_law_kinds_here", "_law_upto"] []) (hB : Bl mg) (G_L_one : FnM P w K mg base 2 "_law_one" 2 m_L_one) (G_L_take : FnM P w K mg base 1 "_law_take" 2 m_L_take) (G_L_number : FnM P w K mg base 2 "_law_number" 1 m_L_number) (G_L_round : FnM P w K mg base 4 "_law_round" 4 m_L_round) (G_L_row_from : FnM P w K mg base 3 "_law_row_from" 4 m_L_row_from) (G_L_end : FnM P w K mg base 1 "_law_end" 1 m_L_end)  : FnM P w K mg base 5 "_law_train" 3 m_L_train :=
  FnM.of F hm bF sc_L_train rfl fun cdv A out s H E hgu hr => show MSs (Cx.nox (cxOf CX0 P w K mg base ["_law_bag_here", "_law_kinds_here", "_law_upto", "_law_k", "_law_here", "_law_found"] "_law_train" (defScope s_L_train) fa cdv A out s H E)) (defBody s_L_train) _ from
    (mss_cons (ms_frzA [4] (ms_par2 (i := 4) (j := 5) (by rfl) sc_L_train.nd rfl rfl (by decide) (by rfl) (by rfl) (me_call G_L_one hgu (hr.mono (by decide)) (by rfl) (ma_cons (me_var 0 (pv 0)) (ma_cons (me_var 1 (pv 1)) ma_nil))) (me_lst ma_nil) (by rfl)))
    (mss_cons (ms_for PassesOwn.never (by rfl) (mi_range (by rfl) hB.range_ (ma_cons (me_op op_addM me_int (me_call G_L_take hgu (hr.mono (by decide)) (by rfl) (ma_cons (me_var 0 (pv 0)) (ma_cons (me_var 2 (pv 2)) ma_nil)))) ma_nil)) (mg_name (i := 3) sc_L_train.nd rfl (by first | exact Or.inl rfl | exact Or.inr rfl))
    (mss_one (ms_if (mt_cmp (op_eqM hr.units) (me_call G_L_take hgu (hr.mono (by decide)) (by rfl) (ma_cons (me_var 0 (pv 0)) (ma_cons me_int ma_nil))) me_int (by first | exact nomark _ | rfl))
    (mss_one (ms_app (i := 5) (pv 5) (me_tup (ma_cons (me_call G_L_number hgu (hr.mono (by decide)) (by rfl) (ma_cons (me_var 0 (pv 0)) ma_nil)) (ma_cons (me_call G_L_round hgu (hr.mono (by decide)) (by rfl) (ma_cons (me_var 0 (pv 0)) (ma_cons (me_var 1 (pv 1)) (ma_cons (me_var 4 (pv 4)) (ma_cons me_int ma_nil))))) ma_nil))))) (mss_cons (ms_app (i := 5) (pv 5) (me_tup (ma_cons me_int (ma_cons (me_call G_L_row_from hgu (hr.mono (by decide)) (by rfl) (ma_cons (me_var 0 (pv 0)) (ma_cons (me_var 1 (pv 1)) (ma_cons (me_var 4 (pv 4)) (ma_cons me_int ma_nil))))) ma_nil))))
    (mss_one (ms_setS (i := 4) sc_L_train.nd rfl (by first | exact Or.inl rfl | exact Or.inr rfl) (me_call G_L_end hgu (hr.mono (by decide)) (by rfl) (ma_cons (me_ix (me_ix (me_ixV (pv 5) (me_un un_negM me_int)) me_int) (me_un un_negM me_int)) ma_nil))))))))
    (mss_one (ms_retO (i := 5) (pv 5)))))
abbrev s_L_freed : Stmt := topS 36
theorem sc_L_freed : FnScope ["_law_train_here", "_law_found", "_law_many", "_law_row", "_law_some", "_law_step", "_law_pair"] ["_law_train_here"] (defScope s_L_freed) := ⟨rfl, rfl, rfl, by decide +kernel, rfl, by decide +kernel, by decide +kernel⟩
theorem ok_L_freed {fa : Addr} {fd : FuncData} (F : Fun K "_law_freed" "_law_freed" s_L_freed fa fd) (hm : mg "_law_freed" = some (.ref fa)) (bF : Binds K fd ["_law_train_here"] []) (hB : Bl mg) (G_L_begin : FnM P w K mg base 1 "_law_begin" 1 m_L_begin) (G_L_end : FnM P w K mg base 1 "_law_end" 1 m_L_end)  : FnM P w K mg base 2 "_law_freed" 1 m_L_freed :=
  FnM.of F hm bF sc_L_freed rfl fun cdv A out s H E hgu hr => show MSs (Cx.nox (cxOf CX0 P w K mg base ["_law_train_here", "_law_found", "_law_many", "_law_row", "_law_some", "_law_step", "_law_pair"] "_law_freed" (defScope s_L_freed) fa cdv A out s H E)) (defBody s_L_freed) _ from
    (mss_cons (ms_set (i := 1) sc_L_freed.nd rfl (by first | exact Or.inl rfl | exact Or.inr rfl) (me_lst ma_nil))
    (mss_cons (ms_for PassesOwn.never (by rfl) (mi_val (me_var 0 (pv 0))) (mg_tup (by rfl) (mgs_cons (mg_name (i := 2) sc_L_freed.nd rfl (by first | exact Or.inl rfl | exact Or.inr rfl)) (mgs_cons (mg_name (i := 3) sc_L_freed.nd rfl (by first | exact Or.inl rfl | exact Or.inr rfl)) mgs_nil)))
    (mss_cons (ms_setLcS (i := 4) (by rfl) sc_L_freed.nd rfl (by rfl) (sw_true rfl rfl rfl (by decide +kernel)) (own := [("_law_step", 5)]) (mi_val (me_var 3 (pv 3))) (blkOk_by (N := ["_law_train_here", "_law_found", "_law_many", "_law_row", "_law_some", "_law_step", "_law_pair"]) (sc := defScope s_L_freed) (by decide +kernel)) (by decide) (fun _ _ _ _ _ => (mg_name (i := 5) sc_L_freed.nd rfl (by first | exact Or.inl rfl | exact Or.inr rfl))) (fun _ _ _ _ _ => mts_nil) (fun _ _ _ _ _ => (me_tup (ma_cons (me_call G_L_begin hgu (hr.mono (by decide)) (by rfl) (ma_cons (me_var 5 (pv 5)) ma_nil)) (ma_cons (me_call G_L_end hgu (hr.mono (by decide)) (by rfl) (ma_cons (me_var 5 (pv 5)) ma_nil)) ma_nil)))))
    (mss_one (ms_app (i := 1) (pv 1) (me_tup (ma_cons (me_var 2 (pv 2)) (ma_cons (me_lc (by rfl) sc_L_freed.nd (own := [("_law_pair", 6)]) (mi_val (me_var 4 (pv 4))) (blkOk_by (N := ["_law_train_here", "_law_found", "_law_many", "_law_row", "_law_some", "_law_step", "_law_pair"]) (sc := defScope s_L_freed) (by decide +kernel)) (by decide) (fun _ _ _ _ _ => (mg_name (i := 6) sc_L_freed.nd rfl (by first | exact Or.inl rfl | exact Or.inr rfl))) (fun _ _ _ _ _ => mts_nil) (fun _ _ _ _ _ => (me_tup (ma_cons (me_tup (ma_cons (me_cb (cr_minTM (by rfl) hr.units) (by rfl) hB.min_ PyProof.Rows.boot_min (ma_cons (me_var 6 (pv 6)) ma_nil)) (ma_cons (me_cb (cr_maxTM (by rfl) hr.units) (by rfl) hB.max_ PyProof.Rows.boot_max (ma_cons (me_var 6 (pv 6)) ma_nil)) (ma_cons me_bl ma_nil)))) (ma_cons (me_cmp (op_gtM hr.units) (me_ix (me_var 6 (pv 6)) me_int) (me_ix (me_var 6 (pv 6)) me_int) (by first | exact nomark _ | rfl)) ma_nil))))) ma_nil)))))))
    (mss_one (ms_retO (i := 1) (pv 1)))))
abbrev s_L_same : Stmt := topS 37
theorem sc_L_same : FnScope ["_law_bag_here", "_law_one_here", "_law_other", "_law_places", "_law_k", "_law_place"] ["_law_bag_here", "_law_one_here", "_law_other"] (defScope s_L_same) := ⟨rfl, rfl, rfl, by decide +kernel, rfl, by decide +kernel, by decide +kernel⟩
theorem ok_L_same (hW : w = Wd.w) {fa : Addr} {fd : FuncData} (F : Fun K "_law_same" "_law_same" s_L_same fa fd) (hm : mg "_law_same" = some (.ref fa)) (bF : Binds K fd ["_law_bag_here", "_law_one_here", "_law_other"] []) (hB : Bl mg) (G_length : FnM P w K mg base 1 "length" 1 m_length) (G_carts_of : FnM P w K mg base 2 "carts_of" 1 m_carts_of) (G_train_ends : FnM P w K mg base 3 "train_ends" 1 m_train_ends) (G_L_take : FnM P w K mg base 1 "_law_take" 2 m_L_take) (G_step_at : FnM P w K mg base 3 "step_at" 2 m_step_at)  : FnM P w K mg base 4 "_law_same" 3 m_L_same :=
  FnM.of F hm bF sc_L_same rfl fun cdv A out s H E hgu hr => show MSs (Cx.nox (cxOf CX0 P w K mg base ["_law_bag_here", "_law_one_here", "_law_other", "_law_places", "_law_k", "_law_place"] "_law_same" (defScope s_L_same) fa cdv A out s H E)) (defBody s_L_same) _ from
    (mss_cons (ms_if (mt_w (mw_or (mt_cmp (op_neM hr.units) (me_call G_length hgu (hr.mono (by decide)) (by rfl) (ma_cons (me_var 1 (pv 1)) ma_nil)) (me_call G_length hgu (hr.mono (by decide)) (by rfl) (ma_cons (me_var 2 (pv 2)) ma_nil)) (by first | exact nomark _ | rfl)) (mw_or (mt_cmp (op_neDN hr.u66 hW) (me_call G_carts_of hgu (hr.mono (by decide)) (by rfl) (ma_cons (me_var 1 (pv 1)) ma_nil)) (me_call G_carts_of hgu (hr.mono (by decide)) (by rfl) (ma_cons (me_var 2 (pv 2)) ma_nil)) (by first | exact nomark _ | rfl)) (mw_or1 (mt_cmp (op_neM hr.units) (me_call G_train_ends hgu (hr.mono (by decide)) (by rfl) (ma_cons (me_var 1 (pv 1)) ma_nil)) (me_call G_train_ends hgu (hr.mono (by decide)) (by rfl) (ma_cons (me_var 2 (pv 2)) ma_nil)) (by first | exact nomark _ | rfl))))))
    (mss_one (ms_ret me_bl)) mss_nil)
    (mss_cons (ms_setS (i := 3) sc_L_same.nd rfl (by first | exact Or.inl rfl | exact Or.inr rfl) (me_op op_addM (me_lst (ma_cons me_int (ma_cons (me_op op_subM (me_call G_length hgu (hr.mono (by decide)) (by rfl) (ma_cons (me_var 1 (pv 1)) ma_nil)) me_int) ma_nil))) (me_lc (by rfl) sc_L_same.nd (own := [("_law_k", 4)]) (mi_range (by rfl) hB.range_ (ma_cons me_int ma_nil)) (blkOk_by (N := ["_law_bag_here", "_law_one_here", "_law_other", "_law_places", "_law_k", "_law_place"]) (sc := defScope s_L_same) (by decide +kernel)) (by decide) (fun _ _ _ _ _ => (mg_name (i := 4) sc_L_same.nd rfl (by first | exact Or.inl rfl | exact Or.inr rfl))) (fun _ _ _ _ _ => mts_nil) (fun _ _ _ _ _ => (me_call G_L_take hgu (hr.mono (by decide)) (by rfl) (ma_cons (me_var 0 (pv 0)) (ma_cons (me_call G_length hgu (hr.mono (by decide)) (by rfl) (ma_cons (me_var 1 (pv 1)) ma_nil)) ma_nil)))))))
    (mss_one (ms_ret (me_cmp (op_eqN hr.units) (me_lc (by rfl) sc_L_same.nd (own := [("_law_place", 5)]) (mi_val (me_var 3 (pv 3))) (blkOk_by (N := ["_law_bag_here", "_law_one_here", "_law_other", "_law_places", "_law_k", "_law_place"]) (sc := defScope s_L_same) (by decide +kernel)) (by decide) (fun _ _ _ _ _ => (mg_name (i := 5) sc_L_same.nd rfl (by first | exact Or.inl rfl | exact Or.inr rfl))) (fun _ _ _ _ _ => (mts_one (mt_cmp (op_neM hr.units) (me_call G_step_at hgu (hr.mono (by decide)) (by rfl) (ma_cons (me_var 1 (pv 1)) (ma_cons (me_var 5 (pv 5)) ma_nil))) (me_call G_step_at hgu (hr.mono (by decide)) (by rfl) (ma_cons (me_var 2 (pv 2)) (ma_cons (me_var 5 (pv 5)) ma_nil))) (by first | exact nomark _ | rfl)))) (fun _ _ _ _ _ => (me_var 5 (pv 5)))) (me_lst ma_nil) (by first | exact nomark _ | rfl))))))
end
end K18
namespace K18
open PySem PySem.Spec PyProof.Rows L2 Mr
variable [Wd]
local macro_rules | `(tactic| decreasing_trivial_pre_omega) => `(tactic| (first | (with_reducible refine sat_seq ?_) | (with_reducible refine seqK_nx ?_) | (with_reducible refine seqK_rt ?_) | (with_reducible refine forK_nx ?_) | (with_reducible refine forK_rt ?_) | (with_reducible refine fnK_rt ?_) | (with_reducible refine frzK_nx ?_) | (with_reducible refine sat_setS ?_) | (with_reducible refine sat_set ?_) | (with_reducible refine sat_unp ?_) | (with_reducible refine sat_sif ?_) | (with_reducible refine sat_ret ?_) | (with_reducible refine sat_skip ?_) | (with_reducible refine sat_expr ?_) | (with_reducible refine sat_par2 ?_) | (with_reducible refine sat_par3 ?_) | (with_reducible refine sat_frz ?_) | (with_reducible refine sat_frzA ?_) | (with_reducible refine sat_c ?_) | (with_reducible refine sat_bin ?_) | (with_reducible refine sat_un ?_) | (with_reducible refine sat_cb ?_) | (with_reducible refine sat_call ?_) | (with_reducible refine sat_cons ?_) | (with_reducible refine sat_nil ?_) | (with_reducible refine sat_tb ?_) | (with_reducible refine sat_tv ?_) | (with_reducible refine sat_tn ?_) | (with_reducible refine sat_ts ?_) | (with_reducible refine sat_to ?_) | (with_reducible refine sat_ta ?_) | (with_reducible refine sat_if' ?_) | (with_reducible refine sat_and ?_) | (with_reducible refine sat_or ?_) | (with_reducible refine sat_not ?_) | (with_reducible refine sat_tup ?_) | (with_reducible refine sat_lst ?_) | (with_reducible refine sat_sl ?_) | (with_reducible refine sat_oNone ?_) | (with_reducible refine sat_oSome ?_) | (with_reducible refine sat_scal ?_) | (with_reducible refine sat_iv ?_) | (with_reducible refine sat_ir ?_) | (with_reducible refine sat_lr1 ?_) | (with_reducible refine sat_lr2 ?_) | ((with_reducible refine sat_var (d := ?_) ?h0 ?_); (case h0 => exact rfl)) | ((with_reducible refine sat_varB ?_ ?_); exact rfl) | ((with_reducible refine sat_retO (d := ?_) ?h0 ?_); (case h0 => exact rfl)) | ((with_reducible refine sat_retS (d := ?_) ?h0 ?_); (case h0 => exact rfl)) | ((with_reducible refine sat_ixO (ds := ?_) ?h0 ?_); (case h0 => exact rfl)) | ((with_reducible refine sat_ixS (d := ?_) ?h0 ?_); (case h0 => exact rfl)) | ((with_reducible refine sat_app (ds := ?_) ?h0 ?_); (case h0 => exact rfl)) | ((with_reducible refine sat_ext (ds := ?_) ?h0 ?_); (case h0 => exact rfl)) | ((with_reducible refine sat_aug (n := ?_) ?h0 ?_); (case h0 => exact rfl)) | (with_reducible refine g2_ss ?_) | (with_reducible refine g2_so ?_) | (with_reducible refine g2_os ?_) | (with_reducible refine g2_oo ?_) | (with_reducible refine g1_s ?_) | (with_reducible refine g1_o ?_) | (with_reducible refine ga_1 ?_) | (with_reducible refine ga_2 ?_) | (with_reducible refine ga_3 ?_) | (with_reducible refine r2 gAdd_int ?_) | (with_reducible refine r2 gSub_int ?_) | (with_reducible refine r2 gEq_int ?_) | (with_reducible refine r2 gNe_int ?_) | (with_reducible refine r2 gLt_int ?_) | (with_reducible refine r2 gLe_int ?_) | (with_reducible refine r2 gGt_int ?_) | (with_reducible refine r2 gGe_int ?_) | (with_reducible refine r2 gEq_str ?_) | (with_reducible refine r2 gNe_str ?_) | (with_reducible refine r2 gLt_str ?_) | (with_reducible refine ra gLen_list ?_) | (with_reducible refine ra gInt_int ?_) | (with_reducible refine ra gMin_int ?_) | (with_reducible refine ra gMax_int ?_) | (with_reducible refine ra gMin_str ?_) | (with_reducible refine ra gMax_str ?_) | (with_reducible refine r1 gNeg_int ?_) | ((with_reducible refine ds_and (ds := ?_) ?h0 ?h1 ?_); (case h0 => exact rfl); (case h1 => exact rfl)) | ((with_reducible refine len_and ?_ ?_); exact rfl) | ((with_reducible refine scal_and ?_ ?_); exact rfl) | (with_reducible refine ⟨_, _, rfl, rfl, ?_⟩) | (with_reducible refine ⟨_, rfl, ?_⟩) | ((with_reducible refine lt_and ?_ ?_); exact rfl) | ((with_reducible refine lt2_and ?_ ?_); exact rfl) | ((with_reducible refine lt3_and ?_ ?_); exact rfl) | (simp only [List.set_cons_zero, List.set_cons_succ, share_sh, share_ow, share_bg, data_sh, data_ow, frzE_nil, frzE_cons, frz1_z, frz1_zs, frz1_s, wipeE_nil, wipeE_cons])))
theorem map_take1 {α β : Type} {f : α → β} {xs : List α} {i : Nat} {p : α} (h : xs[i]? = some p) : (xs.take (i + 1)).map f = (xs.take i).map f ++ [f p] := by
  rw [List.take_add_one, h]; simp
def farD : PyData → PyData
  | .tuple [.tuple [.str x, .str y, .bool t], .bool u] => (far ⟨x, y, t, u⟩).d
  | d => d
theorem farD_d (s : Sp1) : farD s.d = (far s).d := rfl
def endsD : PyData → PyData
  | .tuple [.tuple [.str x, .str y, .bool t], .bool u] => .tuple [.str (Sp1.b ⟨x, y, t, u⟩), .str (Sp1.e ⟨x, y, t, u⟩)]
  | d => d
theorem endsD_d (s : Sp1) : endsD s.d = .tuple [.str s.b, .str s.e] := rfl
def freeD : PyData → PyData
  | .tuple [.str x, .str y] => (free x y).d
  | d => d
abbrev frP (p : Nat × Mr.Row) : Nat × Mr.Row := (p.1, p.2.map fun s => free s.b s.e)
theorem enum_mem {xs : List PyData} {d : PyData} (h : d ∈ enumD xs) : ∃ (k : Nat) (x : PyData), x ∈ xs ∧ d = .tuple [.int (k : Int), x] := by
  obtain ⟨p, hp, rfl⟩ := List.mem_map.mp h
  exact ⟨p.2, p.1, (List.mem_zipIdx_iff_getElem?.mp hp |> List.mem_of_getElem?), rfl⟩
section
variable {B : Bag} {Q : EV → Bag → Prop} {QS : Mr.Flow → Bag → Prop} {ts F F' : Tn} {r w : Mr.Row} {a c : Str} {s : Sp1}
theorem about_sat (ht : s.t = true) (q : Q (.sh (far s).d) B) : Sat (m_about [.sh s.d] B) Q := by
  obtain ⟨x, y, t, u⟩ := s
  dsimp only at ht
  subst ht
  unfold m_about
  refine sat_fn (by simp only [List.map_cons, List.map_nil, List.length_cons, List.length_nil, List.replicate, List.cons_append, List.nil_append, Nat.reduceAdd, Nat.reduceSub]; exact rfl) ?_
  repeat (first | (with_reducible refine r2 (show gIx (sD x y true u) (.int 0) = some (.sh (cD x y true)) from rfl) ?_) | decreasing_trivial_pre_omega)
  refine ⟨(fun z => nomatch z), fun _ => ?_⟩
  repeat decreasing_trivial_pre_omega
  unfold m_about_1
  repeat decreasing_trivial_pre_omega
  cases h : x == y
  · refine ⟨(fun z => nomatch z), fun _ => ?_⟩
    repeat (first | (with_reducible refine r2 (show gIx (sD x y true u) (.int 0) = some (.sh (cD x y true)) from rfl) ?_) | (with_reducible refine r2 (show gIx (sD x y true u) (.int 1) = some (.sh (.bool u)) from rfl) ?_) | decreasing_trivial_pre_omega)
    simpa [far, h] using q
  · refine ⟨fun _ => ?_, (fun z => nomatch z)⟩
    repeat decreasing_trivial_pre_omega
    simpa [far, h] using q
theorem row_about_sat (ht : ∀ s ∈ r, s.t = true) (hl : r.length ≤ 90000) (q : Q (.ow (.list (rD (rab r)))) B) : Sat (m_row_about [.sh (.list (rD r))] B) Q := by
  unfold m_row_about
  refine sat_fn (by simp only [List.map_cons, List.map_nil, List.length_cons, List.length_nil, List.replicate, List.cons_append, List.nil_append, Nat.reduceAdd, Nat.reduceSub]; exact rfl) ?_
  repeat decreasing_trivial_pre_omega
  refine sat_for (fun i ρ B' => B' = B ∧ ∃ (x1 x2 : Option EV), ρ = [some (.sh (.list (rD r))), x1, x2]) ?_
  refine sat_enum ?_
  repeat decreasing_trivial_pre_omega
  refine ⟨⟨by trivial, _, _, rfl⟩, fun i d ρ B' hd hI => ?_, fun ρ B' hI => ?_⟩
  · obtain ⟨rfl, x1, x2, rfl⟩ := hI
    obtain ⟨k, d, hd', rfl⟩ := enum_mem (List.mem_of_getElem? hd)
    obtain ⟨s, hs, rfl⟩ := List.mem_map.mp hd'
    refine ⟨_, rfl, ?_⟩
    unfold m_row_about_1
    repeat (first | (with_reducible refine r2 (show gIx s.d (.int 0) = some (.sh s.c) from rfl) ?_) | (with_reducible refine r2 (show gIx s.c (.int 2) = some (.sh (.bool s.t)) from rfl) ?_) | decreasing_trivial_pre_omega)
    rw [ht s hs]
    refine ⟨(fun z => nomatch z), fun _ => ?_⟩
    repeat decreasing_trivial_pre_omega
    exact ⟨by trivial, _, _, rfl⟩
  · obtain ⟨rfl, x1, x2, rfl⟩ := hI
    repeat decreasing_trivial_pre_omega
    unfold m_row_about_2
    repeat decreasing_trivial_pre_omega
    refine sat_compM farD ?_
    repeat (first | (with_reducible refine r1 (show gRevL (.list (rD r)) = some (.ow (.list (rD r).reverse)) from rfl) ?_) | decreasing_trivial_pre_omega)
    refine ⟨by rw [List.length_reverse, List.length_map]; exact sz (by omega), ?_, ?_⟩
    · intro d hd
      obtain ⟨s, hs, rfl⟩ := List.mem_map.mp (List.mem_reverse.mp hd)
      refine ⟨_, rfl, ?_⟩
      repeat (first | (with_reducible refine about_sat (ht s hs) ?_) | decreasing_trivial_pre_omega)
      exact ⟨by trivial, by rw [farD_d]⟩
    · repeat decreasing_trivial_pre_omega
      have e : (rD r).reverse.map farD = rD (rab r) := by
        unfold rab rD
        rw [← List.map_reverse, List.map_map, List.map_map]
        exact List.map_congr_left fun s _ => farD_d s
      rw [e]
      exact q
theorem train_about_sat (ht : ∀ p ∈ ts, ∀ s ∈ p.2, s.t = true) (hl : ts.length ≤ 90000) (hr : ∀ p ∈ ts, p.2.length ≤ 90000) (q : Q (.ow (.list (tD (tab ts)))) B) : Sat (m_train_about [.sh (.list (tD ts))] B) Q := by
  unfold m_train_about
  refine sat_fn (by simp only [List.map_cons, List.map_nil, List.length_cons, List.length_nil, List.replicate, List.cons_append, List.nil_append, Nat.reduceAdd, Nat.reduceSub]; exact rfl) ?_
  repeat decreasing_trivial_pre_omega
  unfold m_train_about_2
  repeat decreasing_trivial_pre_omega
  refine sat_for (fun i ρ B' => B' = B ∧ ∃ (n : Int) (x3 x4 x5 : Option EV), ρ = [some (.sh (.list (tD ts))), some (.sh (.int n)), some (.ow (.list (tD ((ts.take i).map rp)))), x3, x4, x5]) ?_
  repeat decreasing_trivial_pre_omega
  refine ⟨⟨by trivial, 0, _, _, _, rfl⟩, fun i d ρ B' hd hI => ?_, fun ρ B' hI => ?_⟩
  · obtain ⟨rfl, n, x3, x4, x5, rfl⟩ := hI
    rw [List.getElem?_map] at hd
    obtain ⟨p, hp, rfl⟩ := Option.map_eq_some_iff.mp hd
    have hm := List.mem_of_getElem? hp
    have lr := hr p hm
    refine ⟨_, rfl, ?_⟩
    unfold m_train_about_1
    repeat (first | (with_reducible refine row_about_sat (ht p hm) lr ?_) | decreasing_trivial_pre_omega)
    refine ⟨?_, ?_⟩
    · rw [List.length_map, List.length_map, sizeLine_eq]
      have := List.length_take_le' i ts
      omega
    · rw [tD_snoc]
      repeat (first | (with_reducible refine r2 (gMul_r (by rw [List.length_map]; omega)) ?_) | decreasing_trivial_pre_omega)
      rw [map_take1 hp]
      exact ⟨by trivial, _, _, _, _, rfl⟩
  · obtain ⟨rfl, n, x3, x4, x5, rfl⟩ := hI
    rw [List.length_map, List.take_length]
    repeat (first | (with_reducible refine r1 (show gRevL (.list (tD (ts.map rp))) = some (.ow (.list (tD (ts.map rp)).reverse)) from rfl) ?_) | decreasing_trivial_pre_omega)
    rw [show (tD (ts.map rp)).reverse = tD (tab ts) from List.map_reverse.symm]
    exact q
theorem freed_sat (hl : ts.length ≤ 90000) (hr : ∀ p ∈ ts, p.2.length ≤ 90000) (q : Q (.ow (.list (tD (ts.map frP)))) B) : Sat (m_L_freed [.sh (.list (tD ts))] B) Q := by
  unfold m_L_freed
  refine sat_fn (by simp only [List.map_cons, List.map_nil, List.length_cons, List.length_nil, List.replicate, List.cons_append, List.nil_append, Nat.reduceAdd, Nat.reduceSub]; exact rfl) ?_
  repeat decreasing_trivial_pre_omega
  unfold m_L_freed_3
  repeat decreasing_trivial_pre_omega
  refine sat_for (fun i ρ B' => B' = B ∧ ∃ (x2 x3 x4 x5 x6 : Option EV), ρ = [some (.sh (.list (tD ts))), some (.ow (.list (tD ((ts.take i).map frP)))), x2, x3, x4, x5, x6]) ?_
  repeat decreasing_trivial_pre_omega
  refine ⟨⟨by trivial, _, _, _, _, _, rfl⟩, fun i d ρ B' hd hI => ?_, fun ρ B' hI => ?_⟩
  · obtain ⟨rfl, x2, x3, x4, x5, x6, rfl⟩ := hI
    rw [List.getElem?_map] at hd
    obtain ⟨p, hp, rfl⟩ := Option.map_eq_some_iff.mp hd
    have hm := List.mem_of_getElem? hp
    have lr := hr p hm
    refine ⟨_, rfl, ?_⟩
    unfold m_L_freed_2
    repeat decreasing_trivial_pre_omega
    refine sat_compM endsD ?_
    repeat decreasing_trivial_pre_omega
    refine ⟨by rw [List.length_map]; exact sz (by omega), ?_, ?_⟩
    · intro d hd
      obtain ⟨s, hs, rfl⟩ := List.mem_map.mp hd
      refine ⟨_, rfl, ?_⟩
      repeat (first | (with_reducible refine Lbegin_sat ?_) | (with_reducible refine Lend_sat ?_) | decreasing_trivial_pre_omega)
      exact ⟨by trivial, by rw [endsD_d]⟩
    · have e : (rD p.2).map endsD = p.2.map fun s => PyData.tuple [.str s.b, .str s.e] := by
        rw [rD, List.map_map]
        exact List.map_congr_left fun s _ => endsD_d s
      rw [e]
      repeat decreasing_trivial_pre_omega
      unfold m_L_freed_1
      repeat decreasing_trivial_pre_omega
      refine sat_compM freeD ?_
      repeat decreasing_trivial_pre_omega
      refine ⟨by rw [List.length_map]; exact sz (by omega), ?_, ?_⟩
      · intro d hd
        obtain ⟨s, hs, rfl⟩ := List.mem_map.mp hd
        refine ⟨_, rfl, ?_⟩
        repeat (first | (with_reducible refine ra (show gMinT [.tuple [.str s.b, .str s.e]] = some (.sh (.str (minS s.b s.e))) from rfl) ?_) | (with_reducible refine ra (show gMaxT [.tuple [.str s.b, .str s.e]] = some (.sh (.str (maxS s.b s.e))) from rfl) ?_) | (with_reducible refine r2 (show gIx (.tuple [.str s.b, .str s.e]) (.int 0) = some (.sh (.str s.b)) from rfl) ?_) | (with_reducible refine r2 (show gIx (.tuple [.str s.b, .str s.e]) (.int 1) = some (.sh (.str s.e)) from rfl) ?_) | (with_reducible refine r2 gGt_str ?_) | decreasing_trivial_pre_omega)
        exact ⟨by trivial, by trivial⟩
      · have e : (p.2.map fun s => PyData.tuple [.str s.b, .str s.e]).map freeD = rD (frP p).2 := by
          simp only [frP, rD, List.map_map]
          rfl
        rw [e]
        repeat decreasing_trivial_pre_omega
        refine ⟨?_, ?_⟩
        · rw [List.length_map, List.length_map, sizeLine_eq]
          have := List.length_take_le' i ts
          omega
        · rw [tD_snoc]
          have e9 := map_take1 (f := frP) hp
          refine forK_nx ?_
          rw [e9]
          exact ⟨by trivial, _, _, _, _, _, rfl⟩
  · obtain ⟨rfl, x2, x3, x4, x5, x6, rfl⟩ := hI
    rw [List.length_map, List.take_length]
    repeat decreasing_trivial_pre_omega
    exact q
theorem big_take (h : ts.length ≤ 9) (hp : ∀ p ∈ ts, p.1 ≤ 10 ^ 29 + 6 ∧ p.2.length ≤ 4) : (wr ts).length < 10 ^ 40 := by
  have := wr_le hp
  have h2 : ts.length * ((10 ^ 29 + 6) * 4) ≤ 9 * ((10 ^ 29 + 6) * 4) := Nat.mul_le_mul_right _ h
  have h3 : 9 * ((10 ^ 29 + 6) * 4) < 10 ^ 40 := by decide
  omega
theorem same_sat (ok : BagOk B) (f : FOk w a c F) (f' : FOk w a c F') (ka : Kl (.str a)) (kc : Kl (.str c)) (hw : ∀ s ∈ w, s.Ok) (nw : w ≠ []) (lw : w.length < 10 ^ 40) (q : ∀ B', BagOk B' → Q (.sh (.bool true)) B') : Sat (m_L_same [.bg, .sh (.list (tD F)), .sh (.list (tD F'))] B) Q := by
  have l0 : 0 < w.length := List.length_pos_iff.mpr nw
  unfold m_L_same
  refine sat_fn (by simp only [List.map_cons, List.map_nil, List.length_cons, List.length_nil, List.replicate, List.cons_append, List.nil_append, Nat.reduceAdd, Nat.reduceSub]; exact rfl) ?_
  repeat (first | (with_reducible refine length_sat f.ln f.rl ?_) | (with_reducible refine length_sat f'.ln f'.rl ?_) | decreasing_trivial_pre_omega)
  rw [f.eq, f'.eq, decide_eq_true rfl]
  refine ⟨fun _ => ?_, (fun z => nomatch z)⟩
  repeat decreasing_trivial_pre_omega
  refine carts_of_sat f.fl f.m0 f.ln fun d rd => ?_
  repeat decreasing_trivial_pre_omega
  refine carts_of_sat f'.fl f'.m0 f'.ln fun d' rd' => ?_
  rw [f.eq] at rd
  rw [f'.eq] at rd'
  repeat (first | (with_reducible refine r2 (rd.ne rd') ?_) | decreasing_trivial_pre_omega)
  refine ⟨fun _ => ?_, (fun z => nomatch z)⟩
  repeat (first | (with_reducible refine train_ends_sat f.ne f.path ?_) | (with_reducible refine train_ends_sat f'.ne f'.path ?_) | (with_reducible refine r2 (gNe_same (ends_gp ka kc) (by decide)) ?_) | decreasing_trivial_pre_omega)
  refine ⟨(fun z => nomatch z), fun _ => ?_⟩
  repeat decreasing_trivial_pre_omega
  unfold m_L_same_2
  repeat (first | (with_reducible refine length_sat f.ln f.rl ?_) | decreasing_trivial_pre_omega)
  rw [f.eq]
  refine sat_compP (fun d => ∃ k : Nat, k < w.length ∧ d = .int (k : Int)) ?_
  repeat decreasing_trivial_pre_omega
  refine ⟨by decide, by decide, ok, by decide, fun d hd B2 ok2 => ⟨_, rfl, ?_⟩, fun xs B2 ok2 lx hx => ?_⟩
  · repeat (first | (with_reducible refine length_sat f.ln f.rl ?_) | decreasing_trivial_pre_omega)
    rw [f.eq]
    refine take_sat ok2 (by omega) (by rw [Int.natAbs_natCast]; exact Nat.lt_trans lw (by decide +kernel)) fun r B3 ok3 r0 r1 => ?_
    exact ⟨ok3, _, rfl, r.toNat, by omega, by rw [Int.toNat_of_nonneg r0]⟩
  · have lx' : xs.length = 6 := by rw [lx]; rfl
    have add : gAdd (.list [PyData.int 0, .int ((w.length : Int) - 1)]) (.list xs) = some (.ow (.list ([PyData.int 0, .int ((w.length : Int) - 1)] ++ xs))) := gAdd_list (by rw [lx']; exact sz (by simp))
    repeat (first | (with_reducible refine r2 add ?_) | decreasing_trivial_pre_omega)
    have hx' : ∀ d ∈ [PyData.int 0, .int ((w.length : Int) - 1)] ++ xs, ∃ k : Nat, k < w.length ∧ d = .int (k : Int) := fun d hd => by
      simp only [List.cons_append, List.nil_append, List.mem_cons] at hd
      rcases hd with rfl | rfl | h
      · exact ⟨0, l0, rfl⟩
      · exact ⟨w.length - 1, by omega, by congr 1; omega⟩
      · exact hx d h
    unfold m_L_same_1
    repeat decreasing_trivial_pre_omega
    refine sat_compF id (fun _ => false) ?_
    repeat decreasing_trivial_pre_omega
    refine ⟨by rw [List.length_append, lx']; exact sz (by simp), fun d hd => ?_, ?_⟩
    · obtain ⟨k, hk, rfl⟩ := hx' d hd
      refine ⟨_, rfl, ?_⟩
      have at1 := List.getElem?_eq_getElem hk
      repeat (first | (with_reducible refine step_at_sat (s := w[k]) f.both (by rw [f.eq]; exact at1) ?_) | (with_reducible refine step_at_sat (s := w[k]) f'.both (by rw [f'.eq]; exact at1) ?_) | (with_reducible refine r2 (gNe_same (sp_gp (hw _ (List.getElem_mem hk))) (by decide)) ?_) | decreasing_trivial_pre_omega)
      exact ⟨by trivial, by trivial, (fun z => nomatch z)⟩
    · rw [List.filter_eq_nil_iff.mpr (by intro a _ h; cases h)]
      repeat (first | (with_reducible refine r2 (show gEqN (.list (List.map id [])) (.list []) = some (.sh (.bool true)) from rfl) ?_) | decreasing_trivial_pre_omega)
      exact q _ ok2
end
end K18
namespace K18
open PySem PySem.Spec PyProof.Rows L2 Mr
variable [Wd]
local macro_rules | `(tactic| decreasing_trivial_pre_omega) => `(tactic| (first | (with_reducible refine sat_seq ?_) | (with_reducible refine seqK_nx ?_) | (with_reducible refine seqK_rt ?_) | (with_reducible refine forK_nx ?_) | (with_reducible refine forK_rt ?_) | (with_reducible refine fnK_rt ?_) | (with_reducible refine frzK_nx ?_) | (with_reducible refine sat_setS ?_) | (with_reducible refine sat_set ?_) | (with_reducible refine sat_unp ?_) | (with_reducible refine sat_sif ?_) | (with_reducible refine sat_ret ?_) | (with_reducible refine sat_skip ?_) | (with_reducible refine sat_expr ?_) | (with_reducible refine sat_par2 ?_) | (with_reducible refine sat_par3 ?_) | (with_reducible refine sat_frz ?_) | (with_reducible refine sat_frzA ?_) | (with_reducible refine sat_c ?_) | (with_reducible refine sat_bin ?_) | (with_reducible refine sat_un ?_) | (with_reducible refine sat_cb ?_) | (with_reducible refine sat_call ?_) | (with_reducible refine sat_cons ?_) | (with_reducible refine sat_nil ?_) | (with_reducible refine sat_tb ?_) | (with_reducible refine sat_tv ?_) | (with_reducible refine sat_tn ?_) | (with_reducible refine sat_ts ?_) | (with_reducible refine sat_to ?_) | (with_reducible refine sat_ta ?_) | (with_reducible refine sat_if' ?_) | (with_reducible refine sat_and ?_) | (with_reducible refine sat_or ?_) | (with_reducible refine sat_not ?_) | (with_reducible refine sat_tup ?_) | (with_reducible refine sat_lst ?_) | (with_reducible refine sat_sl ?_) | (with_reducible refine sat_oNone ?_) | (with_reducible refine sat_oSome ?_) | (with_reducible refine sat_scal ?_) | (with_reducible refine sat_iv ?_) | (with_reducible refine sat_ir ?_) | (with_reducible refine sat_lr1 ?_) | (with_reducible refine sat_lr2 ?_) | ((with_reducible refine sat_var (d := ?_) ?h0 ?_); (case h0 => exact rfl)) | ((with_reducible refine sat_varB ?_ ?_); exact rfl) | ((with_reducible refine sat_retO (d := ?_) ?h0 ?_); (case h0 => exact rfl)) | ((with_reducible refine sat_retS (d := ?_) ?h0 ?_); (case h0 => exact rfl)) | ((with_reducible refine sat_ixO (ds := ?_) ?h0 ?_); (case h0 => exact rfl)) | ((with_reducible refine sat_ixS (d := ?_) ?h0 ?_); (case h0 => exact rfl)) | ((with_reducible refine sat_app (ds := ?_) ?h0 ?_); (case h0 => exact rfl)) | ((with_reducible refine sat_ext (ds := ?_) ?h0 ?_); (case h0 => exact rfl)) | ((with_reducible refine sat_aug (n := ?_) ?h0 ?_); (case h0 => exact rfl)) | (with_reducible refine g2_ss ?_) | (with_reducible refine g2_so ?_) | (with_reducible refine g2_os ?_) | (with_reducible refine g2_oo ?_) | (with_reducible refine g1_s ?_) | (with_reducible refine g1_o ?_) | (with_reducible refine ga_1 ?_) | (with_reducible refine ga_2 ?_) | (with_reducible refine ga_3 ?_) | (with_reducible refine r2 gAdd_int ?_) | (with_reducible refine r2 gSub_int ?_) | (with_reducible refine r2 gEq_int ?_) | (with_reducible refine r2 gNe_int ?_) | (with_reducible refine r2 gLt_int ?_) | (with_reducible refine r2 gLe_int ?_) | (with_reducible refine r2 gGt_int ?_) | (with_reducible refine r2 gGe_int ?_) | (with_reducible refine r2 gEq_str ?_) | (with_reducible refine r2 gNe_str ?_) | (with_reducible refine r2 gLt_str ?_) | (with_reducible refine ra gLen_list ?_) | (with_reducible refine ra gInt_int ?_) | (with_reducible refine ra gMin_int ?_) | (with_reducible refine ra gMax_int ?_) | (with_reducible refine ra gMin_str ?_) | (with_reducible refine ra gMax_str ?_) | (with_reducible refine r1 gNeg_int ?_) | ((with_reducible refine ds_and (ds := ?_) ?h0 ?h1 ?_); (case h0 => exact rfl); (case h1 => exact rfl)) | ((with_reducible refine len_and ?_ ?_); exact rfl) | ((with_reducible refine scal_and ?_ ?_); exact rfl) | (with_reducible refine ⟨_, _, rfl, rfl, ?_⟩) | (with_reducible refine ⟨_, rfl, ?_⟩) | ((with_reducible refine lt_and ?_ ?_); exact rfl) | ((with_reducible refine lt2_and ?_ ?_); exact rfl) | ((with_reducible refine lt3_and ?_ ?_); exact rfl) | (simp only [List.set_cons_zero, List.set_cons_succ, share_sh, share_ow, share_bg, data_sh, data_ow, frzE_nil, frzE_cons, frz1_z, frz1_zs, frz1_s, wipeE_nil, wipeE_cons])))
/-- a train of carts that turn -/
structure TOk (n : Nat) (a c : Str) (T : Tn) : Prop where
  ne : T ≠ []
  path : TPath a T c
  st : ∀ p ∈ T, ∀ s ∈ p.2, s.Ok
  tu : ∀ p ∈ T, ∀ s ∈ p.2, s.t = true
  ln : T.length ≤ n
  rl : ∀ p ∈ T, p.1 ≤ 10 ^ 29 + 6 ∧ p.2.length ≤ 4
  ka : Kl (.str a)
  kc : Kl (.str c)
section
variable {n m : Nat} {a b c : Str} {T U : Tn}
theorem TOk.f (t : TOk n a c T) (hn : n ≤ 9) : FOk (wr T) a c T := by
  have h1 := flat_le fun p hp => (t.rl p hp).2
  have h2 := t.ln
  exact ⟨t.ne, t.path, rfl, t.st, by omega, by omega⟩
theorem TOk.tab (t : TOk n a c T) : TOk n c a (tab T) := by
  refine ⟨?_, tab_path t.path, ?_, ?_, by rw [tab_len]; exact t.ln, ?_, t.kc, t.ka⟩
  · intro z
    have := tab_len T
    rw [z] at this
    exact t.ne (List.length_eq_zero_iff.mp this.symm)
  · intro p hp s hs
    obtain ⟨q, hq, rfl⟩ := tab_mem hp
    obtain ⟨z, hz, rfl⟩ := rab_mem hs
    exact far_ok (t.st q hq z hz) (t.tu q hq z hz)
  · intro p hp s hs
    obtain ⟨q, hq, rfl⟩ := tab_mem hp
    obtain ⟨z, hz, rfl⟩ := rab_mem hs
    rw [far_t]; exact t.tu q hq z hz
  · intro p hp
    obtain ⟨q, hq, rfl⟩ := tab_mem hp
    have := t.rl q hq
    exact ⟨this.1, by rw [rab_len]; exact this.2⟩
theorem TOk.app (t : TOk n a b T) (u : TOk m b c U) : TOk (n + m) a c (T ++ U) := by
  refine ⟨by intro z; exact t.ne (List.append_eq_nil_iff.mp z).1, t.path.append u.path, ?_, ?_, ?_, ?_, t.ka, u.kc⟩
  · intro p hp
    rcases List.mem_append.mp hp with h | h
    · exact t.st p h
    · exact u.st p h
  · intro p hp
    rcases List.mem_append.mp hp with h | h
    · exact t.tu p h
    · exact u.tu p h
  · rw [List.length_append]; exact Nat.add_le_add t.ln u.ln
  · intro p hp
    rcases List.mem_append.mp hp with h | h
    · exact t.rl p h
    · exact u.rl p h
theorem TOk.ok (t : TOk n a c T) : ∀ s ∈ wr T, s.Ok := fun s hs => by
  obtain ⟨p, hp, hs⟩ := wr_mem hs
  exact t.st p hp s hs
theorem TOk.nw (t : TOk n a c T) : wr T ≠ [] := by
  have := t.path
  have ne := t.ne
  cases T with
  | nil => exact (ne rfl).elim
  | cons p ts =>
    obtain ⟨m0, nr, _⟩ := this
    intro z
    have : (wr (p :: ts)).length = 0 := by rw [z]; rfl
    rw [wr, List.length_append, reps_len] at this
    have : 0 < p.1 * p.2.length := Nat.mul_pos m0 (List.length_pos_iff.mpr nr)
    omega
theorem TOk.big (t : TOk n a c T) (hn : n ≤ 9) : (wr T).length < 10 ^ 40 := big_take (Nat.le_trans t.ln hn) t.rl
abbrev flt (T : Tn) : Mr.Row := T.flatMap (·.2)
theorem flt_path : ∀ {T : Tn} {a c : Str}, TPath a T c → Path a (flt T) c
  | [], _, _, h => h
  | p :: T, a, c, ⟨h1, h2, b, h3, h4, h5⟩ => by
    rw [flt, List.flatMap_cons]
    exact h3.append (flt_path h5)
theorem TOk.flt_ne (t : TOk n a c T) : flt T ≠ [] := by
  have := t.path
  have ne := t.ne
  cases T with
  | nil => exact (ne rfl).elim
  | cons p ts =>
    obtain ⟨m0, nr, _⟩ := this
    rw [flt, List.flatMap_cons]
    intro z
    exact nr (List.append_eq_nil_iff.mp z).1
theorem TOk.flt_ok (t : TOk n a c T) : ∀ s ∈ flt T, s.Ok ∧ s.t = true := fun s hs => by
  obtain ⟨p, hp, hs⟩ := List.mem_flatMap.mp hs
  exact ⟨t.st p hp s hs, t.tu p hp s hs⟩
theorem TOk.flt_len (t : TOk n a c T) (hn : n ≤ 9) : (flt T).length ≤ 36 := by
  have h1 := flat_le fun p hp => (t.rl p hp).2
  have h2 := t.ln
  unfold flt
  omega
theorem fr_path : ∀ {T : Tn} {a c : Str}, TPath a T c → TPath a (T.map frP) c
  | [], _, _, h => h
  | p :: T, a, c, ⟨h1, h2, b, h3, h4, h5⟩ => by
    refine ⟨h1, by simpa using h2, b, ?_, h4, fr_path h5⟩
    clear h1 h2 h4 h5
    have : ∀ (r : Mr.Row) (a b : Str), Path a r b → Path a (r.map fun s => free s.b s.e) b := by
      intro r
      induction r with
      | nil => intro a b h; exact h
      | cons s r ih =>
        intro a b h
        refine ⟨by rw [free_b]; exact h.1, ?_⟩
        rw [free_e]
        exact ih _ _ h.2
    exact this _ _ _ h3
theorem b_kl {s : Sp1} (h : s.Ok) : Kl (.str s.b) ∧ Kl (.str s.e) := by
  obtain ⟨x, y, t, u⟩ := s
  cases u
  · exact ⟨h.kx, h.ky⟩
  · exact ⟨h.ky, h.kx⟩
theorem fr_ok (ne : T ≠ []) (path : TPath a T c) (st : ∀ p ∈ T, ∀ s ∈ p.2, s.Ok) (ln : T.length ≤ n) (rl : ∀ p ∈ T, p.1 ≤ 10 ^ 29 + 6 ∧ p.2.length ≤ 4) (ka : Kl (.str a)) (kc : Kl (.str c)) : TOk n a c (T.map frP) := by
  refine ⟨by simpa using ne, fr_path path, ?_, ?_, by simpa using ln, ?_, ka, kc⟩
  · intro p hp s hs
    obtain ⟨q, hq, rfl⟩ := List.mem_map.mp hp
    obtain ⟨z, hz, rfl⟩ := List.mem_map.mp hs
    have := b_kl (st q hq z hz)
    exact free_ok this.1 this.2
  · intro p hp s hs
    obtain ⟨q, hq, rfl⟩ := List.mem_map.mp hp
    obtain ⟨z, hz, rfl⟩ := List.mem_map.mp hs
    rfl
  · intro p hp
    obtain ⟨q, hq, rfl⟩ := List.mem_map.mp hp
    have := rl q hq
    exact ⟨this.1, by simpa using this.2⟩
end
section
variable {x0 x2 x3 x4 x5 x6 x7 x8 x9 x10 : Option EV} {ks : List PyData} {B : Bag} {QS : Mr.Flow → Bag → Prop} {T U : Tn} {w : Mr.Row} {a c : Str}
abbrev rW (x0 x2 : Option EV) (ks : List PyData) (x5 : Option EV) (T : Tn) (x8 x9 x10 : Option EV) : Mr.Env := [x0, some .bg, x2, some (.sh (.list ks)), some (.sh (.list (tD (tab T)))), x5, some (.sh (.list (tD T))), some (.sh (.list (rD (flt T)))), x8, x9, x10]
theorem law1_sat (ok : BagOk B) (t : TOk 4 a c T) (u : TOk 1 c c U) (q : ∀ B', BagOk B' → QS (.nx (rW x0 x2 ks (some (.sh (.list (tD U)))) T x8 x9 x10)) B') : Sat (m_law_1 (rW x0 x2 ks (some (.sh (.list (tD U)))) T x8 x9 x10) B) QS := by
  have tu := t.app u
  have ln := t.ln
  have lu := u.ln
  have l1 := tab_len U
  have l2 := tab_len T
  have f1 : FOk (wr (tab (T ++ U))) c a (tab (T ++ U)) := tu.tab.f (by decide)
  have f2 : FOk (wr (tab (T ++ U))) c a (tab U ++ tab T) := tab_append T U ▸ f1
  unfold m_law_1
  repeat (first | (with_reducible refine joined_sat t.ne u.ne t.path u.path (by omega) (by omega) ?_) | (with_reducible refine train_about_sat tu.tu (by have := tu.ln; omega) (fun p hp => by have := (tu.rl p hp).2; omega) ?_) | (with_reducible refine train_about_sat u.tu (by omega) (fun p hp => by have := (u.rl p hp).2; omega) ?_) | (with_reducible refine joined_sat u.tab.ne t.tab.ne u.tab.path t.tab.path (by omega) (by omega) ?_) | decreasing_trivial_pre_omega)
  refine same_sat ok f1 f2 tu.tab.ka tu.tab.kc tu.tab.ok tu.tab.nw (tu.tab.big (by decide)) fun B1 ok1 => ?_
  repeat decreasing_trivial_pre_omega
  refine ⟨(fun z => nomatch z), fun _ => ?_⟩
  repeat decreasing_trivial_pre_omega
  exact q _ ok1
theorem law2_sat (ok : BagOk B) (hk : ∀ d ∈ ks, Kl d) (nk : ks ≠ []) (lk : ks.length < 2 ^ 32) (t : TOk 4 a c T) (q : ∀ B' x5, BagOk B' → QS (.nx (rW x0 x2 ks x5 T x8 x9 x10)) B') : Sat (m_law_2 (rW x0 x2 ks x5 T x8 x9 x10) B) QS := by
  unfold m_law_2
  repeat (first | (with_reducible refine train_ends_sat t.ne t.path ?_) | (with_reducible refine r2 (show gIx (.tuple [.str a, .str c]) (.int 1) = some (.sh (.str c)) from rfl) ?_) | decreasing_trivial_pre_omega)
  refine round_sat (n := 3) ok hk nk lk t.kc (by decide) (by decide) fun r B1 ok1 nr lr okr pr => ?_
  repeat decreasing_trivial_pre_omega
  refine freed_sat (ts := [(3, r)]) (by simp) (by simp; omega) ?_
  have u : TOk 1 c c ([(3, r)].map frP) := fr_ok (by simp) ⟨(show 0 < 3 by decide), nr, c, pr, .inr rfl, rfl⟩ (by simpa using okr) (by simp) (by simp; omega) t.kc t.kc
  repeat decreasing_trivial_pre_omega
  exact law1_sat ok1 t u fun B' ok' => q _ _ ok'
theorem law3_sat (ok : BagOk B) (hk : ∀ d ∈ ks, Kl d) (nk : ks ≠ []) (lk : ks.length < 2 ^ 32) (t : TOk 4 a c T) (q : ∀ B' x5, BagOk B' → QS (.nx (rW x0 x2 ks x5 T x8 x9 x10)) B') : Sat (m_law_3 (rW x0 x2 ks x5 T x8 x9 x10) B) QS := by
  have lf := t.flt_len (by decide)
  have okr : ∀ s ∈ rab (flt T), s.Ok := fun s hs => by
    obtain ⟨z, hz, rfl⟩ := rab_mem hs
    exact far_ok (t.flt_ok z hz).1 (t.flt_ok z hz).2
  unfold m_law_3
  repeat decreasing_trivial_pre_omega
  refine sat_compM id ?_
  repeat decreasing_trivial_pre_omega
  refine ⟨by rw [List.length_map]; exact sz (by omega), fun d hd => ?_, ?_⟩
  · obtain ⟨s, hs, rfl⟩ := List.mem_map.mp hd
    refine ⟨_, rfl, ?_⟩
    repeat (first | (with_reducible refine about_sat (t.flt_ok s hs).2 ?_) | (with_reducible refine about_sat (by rw [far_t]; exact (t.flt_ok s hs).2) ?_) | decreasing_trivial_pre_omega)
    rw [far_far]
    exact ⟨by trivial, by trivial⟩
  · rw [List.map_id]
    repeat (first | (with_reducible refine r2 (gNe_same (row_gp fun s hs => (t.flt_ok s hs).1) (by decide)) ?_) | decreasing_trivial_pre_omega)
    refine ⟨fun _ => ?_, (fun z => nomatch z)⟩
    repeat (first | (with_reducible refine row_about_sat (fun s hs => (t.flt_ok s hs).2) (by omega) ?_) | decreasing_trivial_pre_omega)
    refine sat_compM farD ?_
    repeat (first | (with_reducible refine r1 (show gRevL (.list (rD (flt T))) = some (.ow (.list (rD (flt T)).reverse)) from rfl) ?_) | decreasing_trivial_pre_omega)
    refine ⟨by rw [List.length_reverse, List.length_map]; exact sz (by omega), ?_, ?_⟩
    · intro d hd
      obtain ⟨s, hs, rfl⟩ := List.mem_map.mp (List.mem_reverse.mp hd)
      refine ⟨_, rfl, ?_⟩
      repeat (first | (with_reducible refine about_sat (t.flt_ok s hs).2 ?_) | decreasing_trivial_pre_omega)
      exact ⟨by trivial, by rw [farD_d]⟩
    · have e : (rD (flt T)).reverse.map farD = rD (rab (flt T)) := by
        unfold rab rD
        rw [← List.map_reverse, List.map_map, List.map_map]
        exact List.map_congr_left fun s _ => farD_d s
      rw [e]
      repeat (first | (with_reducible refine r2 (gNe_same (row_gp okr) (by decide)) ?_) | decreasing_trivial_pre_omega)
      refine ⟨(fun z => nomatch z), fun _ => ?_⟩
      repeat decreasing_trivial_pre_omega
      exact law2_sat ok hk nk lk t q
theorem law4_sat (ok : BagOk B) (hk : ∀ d ∈ ks, Kl d) (nk : ks ≠ []) (lk : ks.length < 2 ^ 32) (t : TOk 4 a c T) (q : ∀ B' x5, BagOk B' → QS (.nx (rW x0 x2 ks x5 T x8 x9 x10)) B') : Sat (m_law_4 (rW x0 x2 ks x5 T x8 x9 x10) B) QS := by
  have lf := t.flt_len (by decide)
  have lr := rab_len (flt T)
  have nr : rab (flt T) ≠ [] := fun z => t.flt_ne (by rw [z] at lr; exact List.length_eq_zero_iff.mp lr.symm)
  unfold m_law_4
  repeat (first | (with_reducible refine row_about_sat (fun s hs => (t.flt_ok s hs).2) (by omega) ?_) | (with_reducible refine row_ends_sat nr (rab_path (flt_path t.path)) ?_) | (with_reducible refine row_ends_sat t.flt_ne (flt_path t.path) ?_) | (with_reducible refine r1 (show gRevT (.tuple [.str a, .str c]) = some (.sh (.tuple [.str c, .str a])) from rfl) ?_) | (with_reducible refine r2 (gNe_same (ends_gp t.kc t.ka) (by decide)) ?_) | decreasing_trivial_pre_omega)
  refine ⟨fun _ => ?_, (fun z => nomatch z)⟩
  repeat (first | (with_reducible refine row_about_sat (fun s hs => (t.flt_ok s hs).2) (by omega) ?_) | decreasing_trivial_pre_omega)
  refine carts_in_sat (by omega) fun d rd => ?_
  repeat decreasing_trivial_pre_omega
  refine carts_in_sat (by omega) fun d' rd' => ?_
  have rd := rd.congr (rab_cnt _)
  repeat (first | (with_reducible refine r2 (rd.ne rd') ?_) | decreasing_trivial_pre_omega)
  refine ⟨(fun z => nomatch z), fun _ => ?_⟩
  repeat decreasing_trivial_pre_omega
  exact law3_sat ok hk nk lk t q
theorem law5_sat (ok : BagOk B) (hk : ∀ d ∈ ks, Kl d) (nk : ks ≠ []) (lk : ks.length < 2 ^ 32) (t : TOk 4 a c T) (q : ∀ B' x5, BagOk B' → QS (.nx (rW x0 x2 ks x5 T x8 x9 x10)) B') : Sat (m_law_5 (rW x0 x2 ks x5 T x8 x9 x10) B) QS := by
  have lf := t.flt_len (by decide)
  have lr := rab_len (flt T)
  have f := t.f (by decide)
  have f' := t.tab.f (by decide)
  unfold m_law_5
  repeat decreasing_trivial_pre_omega
  refine carts_of_sat f'.fl f'.m0 f'.ln fun d rd => ?_
  repeat decreasing_trivial_pre_omega
  refine carts_of_sat f.fl f.m0 f.ln fun d' rd' => ?_
  rw [tab_wr] at rd
  have rd := rd.congr (rab_cnt _)
  repeat (first | (with_reducible refine r2 (rd.ne rd') ?_) | decreasing_trivial_pre_omega)
  refine ⟨fun _ => ?_, (fun z => nomatch z)⟩
  repeat (first | (with_reducible refine row_about_sat (fun s hs => (t.flt_ok s hs).2) (by omega) ?_) | decreasing_trivial_pre_omega)
  refine row_about_sat (fun s hs => by
    obtain ⟨z, hz, rfl⟩ := rab_mem hs
    rw [far_t]; exact (t.flt_ok z hz).2) (by omega) ?_
  rw [rab_rab]
  repeat (first | (with_reducible refine r2 (gNe_same (row_gp fun s hs => (t.flt_ok s hs).1) (by decide)) ?_) | decreasing_trivial_pre_omega)
  refine ⟨(fun z => nomatch z), fun _ => ?_⟩
  repeat decreasing_trivial_pre_omega
  exact law4_sat ok hk nk lk t q
theorem law6_sat (ok : BagOk B) (hk : ∀ d ∈ ks, Kl d) (nk : ks ≠ []) (lk : ks.length < 2 ^ 32) (t : TOk 4 a c T) (q : ∀ B' x5, BagOk B' → QS (.nx (rW x0 x2 ks x5 T x8 x9 x10)) B') : Sat (m_law_6 (rW x0 x2 ks x5 T x8 x9 x10) B) QS := by
  have f := t.f (by decide)
  have ln := t.tab.ln
  unfold m_law_6
  repeat (first | (with_reducible refine train_about_sat t.tab.tu (by omega) (fun p hp => by have := (t.tab.rl p hp).2; omega) ?_) | decreasing_trivial_pre_omega)
  rw [tab_tab]
  repeat decreasing_trivial_pre_omega
  refine same_sat ok f f t.ka t.kc t.ok t.nw (t.big (by decide)) fun B1 ok1 => ?_
  repeat decreasing_trivial_pre_omega
  refine ⟨fun _ => ?_, (fun z => nomatch z)⟩
  repeat (first | (with_reducible refine train_ends_sat t.tab.ne t.tab.path ?_) | (with_reducible refine train_ends_sat t.ne t.path ?_) | (with_reducible refine r1 (show gRevT (.tuple [.str a, .str c]) = some (.sh (.tuple [.str c, .str a])) from rfl) ?_) | (with_reducible refine r2 (gNe_same (ends_gp t.kc t.ka) (by decide)) ?_) | decreasing_trivial_pre_omega)
  refine ⟨(fun z => nomatch z), fun _ => ?_⟩
  repeat decreasing_trivial_pre_omega
  exact law5_sat ok1 hk nk lk t q
theorem law7_sat (ok : BagOk B) (hk : ∀ d ∈ ks, Kl d) (nk : ks ≠ []) (lk : ks.length < 2 ^ 32) (t : TOk 4 a c T) (q : ∀ B' x5 x8 x9, BagOk B' → QS (.nx (rW x0 x2 ks x5 T x8 x9 x10)) B') :
    Sat (m_law_7 [x0, some .bg, x2, some (.sh (.list ks)), x4, x5, some (.sh (.list (tD T))), some (.sh (.list [])), x8, x9, x10] B) QS := by
  have ln := t.ln
  have lf := t.flt_len (by decide)
  unfold m_law_7
  repeat decreasing_trivial_pre_omega
  refine sat_for (fun i ρ B' => B' = B ∧ ∃ (x8 x9 : Option EV), ρ = [x0, some .bg, x2, some (.sh (.list ks)), x4, x5, some (.sh (.list (tD T))), some (.sh (.list (rD (flt (T.take i))))), x8, x9, x10]) ?_
  repeat decreasing_trivial_pre_omega
  refine ⟨⟨by trivial, _, _, rfl⟩, fun i d ρ B' hd hI => ?_, fun ρ B' hI => ?_⟩
  · obtain ⟨rfl, y8, y9, rfl⟩ := hI
    rw [List.getElem?_map] at hd
    obtain ⟨p, hp, rfl⟩ := Option.map_eq_some_iff.mp hd
    refine ⟨_, rfl, ?_⟩
    have e : flt (T.take (i + 1)) = flt (T.take i) ++ p.2 := by
      rw [List.take_add_one, hp, flt, List.flatMap_append]; simp
    have le : (flt (T.take i)).length + p.2.length ≤ 36 := by
      rw [← List.length_append, ← e]
      have : flt T = flt (T.take (i + 1)) ++ flt (T.drop (i + 1)) := by rw [flt, flt, flt, ← List.flatMap_append, List.take_append_drop]
      rw [this, List.length_append] at lf
      omega
    repeat (first | (with_reducible refine r2 (gAdd_list (by rw [List.length_map, List.length_map]; exact sz (by omega))) ?_) | decreasing_trivial_pre_omega)
    rw [show rD (flt (T.take i)) ++ rD p.2 = rD (flt (T.take (i + 1))) by rw [e, rD, rD, rD, List.map_append]]
    exact ⟨by trivial, _, _, rfl⟩
  · obtain ⟨rfl, y8, y9, rfl⟩ := hI
    rw [List.length_map, List.take_length]
    repeat (first | (with_reducible refine train_about_sat t.tu (by omega) (fun p hp => by have := (t.rl p hp).2; omega) ?_) | decreasing_trivial_pre_omega)
    exact law6_sat ok hk nk lk t fun B' _ ok' => q B' _ _ _ ok'
theorem turn_sat (ok : BagOk B) (q : ∀ B' ks T x5 x8 x9, BagOk B' → QS (.nx (rW x0 x2 ks x5 T x8 x9 x10)) B') :
    Sat (m_law_9 [x0, some .bg, x2, x3, x4, x5, x6, x7, x8, x9, x10] B) QS := by
  unfold m_law_9
  repeat decreasing_trivial_pre_omega
  refine take_satL ok 4 rfl (by decide) fun r1 B1 ok1 h1 => ?_
  repeat decreasing_trivial_pre_omega
  rw [show (1 : Int) + (r1 : Int) = ((r1 + 1 : Nat) : Int) by omega]
  refine kinds_satL ok1 (by omega) fun ks e B2 he ok2 hkl hk => ?_
  have nk : ks ≠ [] := by intro z; rw [z] at hkl; simp at hkl
  have lk : ks.length < 2 ^ 32 := by omega
  repeat decreasing_trivial_pre_omega
  rw [he]
  repeat decreasing_trivial_pre_omega
  unfold m_law_8
  repeat decreasing_trivial_pre_omega
  refine train_sat (n := 4) ok2 hk nk lk (by decide) (by decide) fun ts a c B3 ok3 nt lt okt ka kc pt => ?_
  repeat decreasing_trivial_pre_omega
  refine freed_sat (by omega) (fun p hp => by have := (okt p hp).r1; omega) ?_
  have t : TOk 4 a c (ts.map frP) := fr_ok nt pt (fun p hp => (okt p hp).st) lt (fun p hp => ⟨(okt p hp).m1, (okt p hp).r1⟩) ka kc
  repeat decreasing_trivial_pre_omega
  exact law7_sat ok3 hk nk lk t fun B' _ _ _ ok' => q B' _ _ _ _ _ ok'
end
theorem lawS_ok {B : Bag} (ok : BagOk B) {x0 x2 x3 x4 x5 x6 x7 x8 x9 x10 : Option EV} : ∃ B', m_lawS [x0, some .bg, x2, x3, x4, x5, x6, x7, x8, x9, x10] B = .ok (.rt (.sh (.bool true))) B' := by
  have : Sat (m_lawS [x0, some .bg, x2, x3, x4, x5, x6, x7, x8, x9, x10] B) (fun fl _ => fl = .rt (.sh (.bool true))) := by
    unfold m_lawS
    repeat decreasing_trivial_pre_omega
    refine sat_for (fun k ρ B' => BagOk B' ∧ ∃ x2 x3 x4 x5 x6 x7 x8 x9, ρ = [x0, some .bg, x2, x3, x4, x5, x6, x7, x8, x9, x10]) ?_
    repeat decreasing_trivial_pre_omega
    refine ⟨by decide, by decide, ⟨ok, _, _, _, _, _, _, _, _, rfl⟩, fun k d ρ B' hd hI => ?_, fun ρ B' hI => ?_⟩
    · obtain ⟨okI, y2, y3, y4, y5, y6, y7, y8, y9, rfl⟩ := hI
      refine ⟨_, rfl, ?_⟩
      refine turn_sat okI fun B4 _ _ _ _ _ ok4 => ?_
      exact ⟨ok4, _, _, _, _, _, _, _, _, rfl⟩
    · obtain ⟨okI, y2, y3, y4, y5, y6, y7, y8, y9, rfl⟩ := hI
      repeat decreasing_trivial_pre_omega
      all_goals rfl
  obtain ⟨a, B', h, e⟩ := sat_inv this
  exact ⟨B', by rw [h, e]⟩
end K18
namespace K18
open PySem PySem.Spec PyProof.Rows L2 Mr
variable [Wd]
section
variable {P : Program} {w : World} {K : PySem.W.Frag} {mg : Str → Option Value} {base : Heap}
abbrev s_bag : Stmt := topS 25
theorem sc_bag : FnScope ["_law_script", "_law_cell"] ["_law_script"] (defScope s_bag) := ⟨rfl, rfl, rfl, by decide +kernel, rfl, by decide +kernel, by decide +kernel⟩
def absI (i : Int) : Int := if i < 0 then -i else i
def spBag (K : PySem.W.Frag) : Sp := fun vs H Q _ => ∃ (a : Addr) (ns : List Int), vs = [.ref a] ∧ SqL K H a (ns.map V.int) ∧ ns.length ≤ 63 ∧ ∀ (H' : Hp) (b c : Addr), Le H H' → b ≠ c → H' c = some (.lst ((ns.map absI).map V.int)) → H' b = some (.lst [.int 0, .int 1234567891, .int 0, .ref c]) → Q (.ref b) H'
theorem cut63 {xs : List V} (h : xs.length ≤ 63) : cutV xs none (some 63) = xs := by
  have e : cutV xs none (some 63) = cutL xs none (some ((63 : Nat) : Int)) := rfl
  rw [e, cutL_to, List.take_of_length_le (by omega)]
theorem ok_bag {f : Addr} {fd : FuncData} (F : Fun K "_law_bag" "_law_bag" s_bag f fd) (hB : Bl mg) : FnG P w K mg base 1 f fd ["_law_script"] (spBag K) := by
  refine Fun.okG F sc_bag (fun vs H Q E h => ?_) (fun cdv A out s H vs Q E hgu hr h => ?_)
  · obtain ⟨a, ns, rfl, _⟩ := h
    rfl
  · obtain ⟨a, ns, rfl, hS, hlen, q⟩ := h
    refine ⟨_, show PSs (Cx.nox (cxOf CX0 P w K mg base ["_law_script", "_law_cell"] "_law_bag" (defScope s_bag) f cdv A out s H E)) (defBody s_bag) _ from pss_one (ps_ret (pe_lst (pa_cons pe_int (pa_cons pe_int (pa_cons pe_int (pa_cons (pe_lc (by rfl) sc_bag.nd (own := [("_law_cell", 1)]) (pi_list (pe_slice sl_list (pv 0) po_none (po_some pe_int)))
      (blkOk_by (N := ["_law_script", "_law_cell"]) (sc := defScope s_bag) (by decide +kernel)) (fun _ _ _ _ _ => pg_name (i := 1) sc_bag.nd rfl (by first | exact Or.inl rfl | exact Or.inr rfl)) (fun _ _ _ _ _ => pts_nil)
      (fun _ _ _ _ _ => pe_callB call_abs (by rfl) hB.abs_ PyProof.Rows.boot_abs (pa_cons (pv 1) pa_nil))) pa_nil)))))), ?_⟩
    have hl : (ns.map V.int).length ≤ 63 := by rw [List.length_map]; exact hlen
    refine ⟨.ref a, rfl, 63, rfl, a, ns.map V.int, rfl, hS, fun t ht => ?_⟩
    rw [cut63 hl]
    have l1 : Le H (upd H t (.lst (ns.map V.int))) := Le.new ht
    refine ⟨t, rfl, ⟨ns.map V.int, .inl (.inl upd_same)⟩, fun D hD => ?_⟩
    have hDt : D ≠ t := fun e => by rw [e, upd_same] at hD; cases hD
    have l2 : Le (upd H t (.lst (ns.map V.int))) (upd (upd H t (.lst (ns.map V.int))) D (.lst [])) := Le.new hD
    have hHD : H D = none := by
      cases z : H D with
      | none => rfl
      | some o => rw [l1 _ _ z] at hD; cases hD
    refine ⟨fun i m Hc => i + m = ns.length ∧ Le H Hc ∧ Hc t = some (.lst (ns.map V.int)) ∧ Hc D = some (.lst (((ns.take i).map absI).map V.int)), ⟨ns.length, by omega, l1.trans l2, by rw [upd_ne (Ne.symm hDt), upd_same], by rw [upd_same]; rfl⟩, fun i m Hc hW => ?_⟩
    obtain ⟨em, lc, et, ed⟩ := hW
    have hT : SqL K Hc t (ns.map V.int) := .inl (.inl et)
    by_cases hi : i < ns.length
    · right
      have gi : (ns.map V.int)[i]? = some (.int ns[i]) := by
        rw [List.getElem?_map, List.getElem?_eq_getElem hi]; rfl
      refine ⟨⟨_, _, hT, gi⟩, fun H' => Le H H' ∧ H' t = some (.lst (ns.map V.int)) ∧ H' D = some (.lst (((ns.take (i + 1)).map absI).map V.int)), fun H' ⟨z1, z2, z3⟩ => ⟨m - 1, by omega, by omega, z1, z2, z3⟩, fun x H' hy => ?_⟩
      obtain ⟨rfl, fv⟩ := hy
      have ev : x = .int ns[i] := Option.some.inj ((fv _ hT).symm.trans gi)
      subst ev
      refine ⟨rfl, ?_⟩
      simp only [tYes, if_true]
      refine ⟨.int ns[i], rfl, ns[i], rfl, _, ed, ?_, ?_, ?_, ?_⟩
      · rw [List.length_map, List.length_map, List.length_take]
        have := sz (n := 64) (by decide)
        omega
      · intro b o hb
        have : b ≠ D := fun e => by rw [e, hHD] at hb; cases hb
        rw [upd_ne this]; exact lc b o hb
      · rw [upd_ne (Ne.symm hDt)]; exact et
      · rw [upd_same, List.take_add_one, List.getElem?_eq_getElem hi, List.map_append, List.map_append]
        rfl
    · left
      refine ⟨⟨_, hT, by rw [List.length_map]; omega⟩, ?_⟩
      rw [List.take_of_length_le (by omega)] at ed
      refine ⟨sz (by simp), fun p hp => ?_⟩
      have hpD : p ≠ D := fun e => by rw [e, ed] at hp; cases hp
      refine q _ p D (lc.trans (Le.new hp)) hpD ?_ upd_same
      rw [upd_ne (Ne.symm hpD)]; exact ed
abbrev s_law : Stmt := topS 38
theorem sc_law : FnScope ["_law_script", "_law_bag_here", "_law_turn", "_law_kinds_here", "_law_far", "_law_more", "_law_train_here", "_law_row", "_law_many", "_law_some", "_law_step"] ["_law_script"] (defScope s_law) := ⟨rfl, rfl, rfl, by decide +kernel, rfl, by decide +kernel, by decide +kernel⟩
def spLaw (K : PySem.W.Frag) : Sp := fun vs H Q _ => ∃ (a : Addr) (ns : List Int), vs = [.ref a] ∧ SqL K H a (ns.map V.int) ∧ ns.length ≤ 63 ∧ ∀ H', Q (.bl true) H'
theorem abs_nn (i : Int) : 0 ≤ absI i := by unfold absI; split <;> omega
theorem law_rest {fa : Addr} (cdv : Value) (A : Around) (out : List PySem.Env) (s : Shared) (H : Hp) (E : XK) (hgu : (A.deeper (envOfC "law" (defScope s_law) s.heap.objs.size fa cdv)).guards = some []) (hr : Room 5 (A.deeper (envOfC "law" (defScope s_law) s.heap.objs.size fa cdv))) (hS : ∃ o, base.get? sysModules = some o) (hB : Bl mg) (hW : w = Wd.w) (G_L_take : FnM P w K mg base 1 "_law_take" 2 m_L_take) (G_L_kinds : FnM P w K mg base 2 "_law_kinds" 2 m_L_kinds) (G_L_train : FnM P w K mg base 5 "_law_train" 3 m_L_train) (G_L_freed : FnM P w K mg base 2 "_law_freed" 1 m_L_freed) (G_train_about : FnM P w K mg base 3 "train_about" 1 m_train_about) (G_L_same : FnM P w K mg base 4 "_law_same" 3 m_L_same) (G_train_ends : FnM P w K mg base 3 "train_ends" 1 m_train_ends) (G_carts_of : FnM P w K mg base 2 "carts_of" 1 m_carts_of) (G_row_about : FnM P w K mg base 2 "row_about" 1 m_row_about) (G_row_ends : FnM P w K mg base 2 "row_ends" 1 m_row_ends) (G_carts_in : FnM P w K mg base 1 "carts_in" 1 m_carts_in) (G_about : FnM P w K mg base 1 "about" 1 m_about) (G_L_round : FnM P w K mg base 4 "_law_round" 4 m_L_round) (G_joined : FnM P w K mg base 4 "joined" 2 m_joined) :
    MSs (Cx.nox (cxOf CX0 P w K mg base ["_law_script", "_law_bag_here", "_law_turn", "_law_kinds_here", "_law_far", "_law_more", "_law_train_here", "_law_row", "_law_many", "_law_some", "_law_step"] "law" (defScope s_law) fa cdv A out s H E)) ((defBody s_law).drop 1) m_lawS :=
    (mss_cons (ms_for PassesOwn.never (by rfl) (mi_range (by rfl) hB.range_ (ma_cons me_int ma_nil)) (mg_name (i := 2) sc_law.nd rfl (by first | exact Or.inl rfl | exact Or.inr rfl))
    (mss_cons (ms_setS (i := 3) sc_law.nd rfl (by first | exact Or.inl rfl | exact Or.inr rfl) (me_call G_L_kinds hgu (hr.mono (by decide)) (by rfl) (ma_cons (me_var 1 (pv 1)) (ma_cons (me_op op_addM me_int (me_call G_L_take hgu (hr.mono (by decide)) (by rfl) (ma_cons (me_var 1 (pv 1)) (ma_cons me_int ma_nil)))) ma_nil))))
    (mss_cons (ms_frzA [6, 7] (ms_par2 (i := 6) (j := 7) (by rfl) sc_law.nd rfl rfl (by decide) (by rfl) (by rfl) (me_call G_L_freed hgu (hr.mono (by decide)) (by rfl) (ma_cons (me_call G_L_train hgu (hr.mono (by decide)) (by rfl) (ma_cons (me_var 1 (pv 1)) (ma_cons (me_var 3 (pv 3)) (ma_cons me_int ma_nil)))) ma_nil)) (me_lst ma_nil) (by rfl)))
    (mss_cons (ms_for PassesOwn.never (by rfl) (mi_val (me_var 6 (pv 6))) (mg_tup (by rfl) (mgs_cons (mg_name (i := 8) sc_law.nd rfl (by first | exact Or.inl rfl | exact Or.inr rfl)) (mgs_cons (mg_name (i := 9) sc_law.nd rfl (by first | exact Or.inl rfl | exact Or.inr rfl)) mgs_nil)))
    (mss_one (ms_setS (i := 7) sc_law.nd rfl (by first | exact Or.inl rfl | exact Or.inr rfl) (me_op op_addM (me_var 7 (pv 7)) (me_var 9 (pv 9))))))
    (mss_cons (ms_setS (i := 4) sc_law.nd rfl (by first | exact Or.inl rfl | exact Or.inr rfl) (me_call G_train_about hgu (hr.mono (by decide)) (by rfl) (ma_cons (me_var 6 (pv 6)) ma_nil)))
    (mss_cons (ms_if (mt_w (mw_or (mt_not (mt_val (me_call G_L_same hgu (hr.mono (by decide)) (by rfl) (ma_cons (me_var 1 (pv 1)) (ma_cons (me_call G_train_about hgu (hr.mono (by decide)) (by rfl) (ma_cons (me_var 4 (pv 4)) ma_nil)) (ma_cons (me_var 6 (pv 6)) ma_nil)))))) (mw_or1 (mt_cmp (op_neM hr.units) (me_call G_train_ends hgu (hr.mono (by decide)) (by rfl) (ma_cons (me_var 4 (pv 4)) ma_nil)) (me_revT (me_call G_train_ends hgu (hr.mono (by decide)) (by rfl) (ma_cons (me_var 6 (pv 6)) ma_nil))) (by first | exact nomark _ | rfl)))))
    (mss_one (ms_ret me_bl)) mss_nil)
    (mss_cons (ms_if (mt_w (mw_or (mt_cmp (op_neDN hr.u66 hW) (me_call G_carts_of hgu (hr.mono (by decide)) (by rfl) (ma_cons (me_var 4 (pv 4)) ma_nil)) (me_call G_carts_of hgu (hr.mono (by decide)) (by rfl) (ma_cons (me_var 6 (pv 6)) ma_nil)) (by first | exact nomark _ | rfl)) (mw_or1 (mt_cmp (op_neM hr.units) (me_call G_row_about hgu (hr.mono (by decide)) (by rfl) (ma_cons (me_call G_row_about hgu (hr.mono (by decide)) (by rfl) (ma_cons (me_var 7 (pv 7)) ma_nil)) ma_nil)) (me_var 7 (pv 7)) (by first | exact nomark _ | rfl)))))
    (mss_one (ms_ret me_bl)) mss_nil)
    (mss_cons (ms_if (mt_w (mw_or (mt_cmp (op_neM hr.units) (me_call G_row_ends hgu (hr.mono (by decide)) (by rfl) (ma_cons (me_call G_row_about hgu (hr.mono (by decide)) (by rfl) (ma_cons (me_var 7 (pv 7)) ma_nil)) ma_nil)) (me_revT (me_call G_row_ends hgu (hr.mono (by decide)) (by rfl) (ma_cons (me_var 7 (pv 7)) ma_nil))) (by first | exact nomark _ | rfl)) (mw_or1 (mt_cmp (op_neDN hr.u66 hW) (me_call G_carts_in hgu (hr.mono (by decide)) (by rfl) (ma_cons (me_call G_row_about hgu (hr.mono (by decide)) (by rfl) (ma_cons (me_var 7 (pv 7)) ma_nil)) ma_nil)) (me_call G_carts_in hgu (hr.mono (by decide)) (by rfl) (ma_cons (me_var 7 (pv 7)) ma_nil)) (by first | exact nomark _ | rfl)))))
    (mss_one (ms_ret me_bl)) mss_nil)
    (mss_cons (ms_if (mt_w (mw_or (mt_cmp (op_neM hr.units) (me_lc (by rfl) sc_law.nd (own := [("_law_step", 10)]) (mi_val (me_var 7 (pv 7))) (blkOk_by (N := ["_law_script", "_law_bag_here", "_law_turn", "_law_kinds_here", "_law_far", "_law_more", "_law_train_here", "_law_row", "_law_many", "_law_some", "_law_step"]) (sc := defScope s_law) (by decide +kernel)) (by decide) (fun _ _ _ _ _ => (mg_name (i := 10) sc_law.nd rfl (by first | exact Or.inl rfl | exact Or.inr rfl))) (fun _ _ _ _ _ => mts_nil) (fun _ _ _ _ _ => (me_call G_about hgu (hr.mono (by decide)) (by rfl) (ma_cons (me_call G_about hgu (hr.mono (by decide)) (by rfl) (ma_cons (me_var 10 (pv 10)) ma_nil)) ma_nil)))) (me_var 7 (pv 7)) (by first | exact nomark _ | rfl)) (mw_or1 (mt_cmp (op_neM hr.units) (me_call G_row_about hgu (hr.mono (by decide)) (by rfl) (ma_cons (me_var 7 (pv 7)) ma_nil)) (me_lc (by rfl) sc_law.nd (own := [("_law_step", 10)]) (mi_val (me_revL (me_var 7 (pv 7)))) (blkOk_by (N := ["_law_script", "_law_bag_here", "_law_turn", "_law_kinds_here", "_law_far", "_law_more", "_law_train_here", "_law_row", "_law_many", "_law_some", "_law_step"]) (sc := defScope s_law) (by decide +kernel)) (by decide) (fun _ _ _ _ _ => (mg_name (i := 10) sc_law.nd rfl (by first | exact Or.inl rfl | exact Or.inr rfl))) (fun _ _ _ _ _ => mts_nil) (fun _ _ _ _ _ => (me_call G_about hgu (hr.mono (by decide)) (by rfl) (ma_cons (me_var 10 (pv 10)) ma_nil)))) (by first | exact nomark _ | rfl)))))
    (mss_one (ms_ret me_bl)) mss_nil)
    (mss_cons (ms_setS (i := 5) sc_law.nd rfl (by first | exact Or.inl rfl | exact Or.inr rfl) (me_call G_L_freed hgu (hr.mono (by decide)) (by rfl) (ma_cons (me_lst (ma_cons (me_tup (ma_cons me_int (ma_cons (me_call G_L_round hgu (hr.mono (by decide)) (by rfl) (ma_cons (me_var 1 (pv 1)) (ma_cons (me_var 3 (pv 3)) (ma_cons (me_ix (me_call G_train_ends hgu (hr.mono (by decide)) (by rfl) (ma_cons (me_var 6 (pv 6)) ma_nil)) me_int) (ma_cons me_int ma_nil))))) ma_nil))) ma_nil)) ma_nil)))
    (mss_one (ms_if (mt_not (mt_val (me_call G_L_same hgu (hr.mono (by decide)) (by rfl) (ma_cons (me_var 1 (pv 1)) (ma_cons (me_call G_train_about hgu (hr.mono (by decide)) (by rfl) (ma_cons (me_call G_joined hgu (hr.mono (by decide)) (by rfl) (ma_cons (me_var 6 (pv 6)) (ma_cons (me_var 5 (pv 5)) ma_nil))) ma_nil)) (ma_cons (me_call G_joined hgu (hr.mono (by decide)) (by rfl) (ma_cons (me_call G_train_about hgu (hr.mono (by decide)) (by rfl) (ma_cons (me_var 5 (pv 5)) ma_nil)) (ma_cons (me_var 4 (pv 4)) ma_nil))) ma_nil))))))
    (mss_one (ms_ret me_bl)) mss_nil))))))))))))
    (mss_one (ms_ret me_bl)))
theorem ok_law {fa fB : Addr} {fd fdB : FuncData} (F : Fun K "law" "law" s_law fa fd) (hS : ∃ o, base.get? sysModules = some o) (GB : FnG P w K mg base 1 fB fdB ["_law_script"] (spBag K)) (mB : mg "_law_bag" = some (.ref fB)) (kB : PySem.W.keepIn K (.ref fB) = true) (bB : Binds K fdB ["_law_script"] []) (hB : Bl mg) (hW : w = Wd.w) (G_L_take : FnM P w K mg base 1 "_law_take" 2 m_L_take) (G_L_kinds : FnM P w K mg base 2 "_law_kinds" 2 m_L_kinds) (G_L_train : FnM P w K mg base 5 "_law_train" 3 m_L_train) (G_L_freed : FnM P w K mg base 2 "_law_freed" 1 m_L_freed) (G_train_about : FnM P w K mg base 3 "train_about" 1 m_train_about) (G_L_same : FnM P w K mg base 4 "_law_same" 3 m_L_same) (G_train_ends : FnM P w K mg base 3 "train_ends" 1 m_train_ends) (G_carts_of : FnM P w K mg base 2 "carts_of" 1 m_carts_of) (G_row_about : FnM P w K mg base 2 "row_about" 1 m_row_about) (G_row_ends : FnM P w K mg base 2 "row_ends" 1 m_row_ends) (G_carts_in : FnM P w K mg base 1 "carts_in" 1 m_carts_in) (G_about : FnM P w K mg base 1 "about" 1 m_about) (G_L_round : FnM P w K mg base 4 "_law_round" 4 m_L_round) (G_joined : FnM P w K mg base 4 "joined" 2 m_joined) : FnG P w K mg base 6 fa fd ["_law_script"] (spLaw K) := by
  refine Fun.okG F sc_law (fun vs H Q E h => ?_) (fun cdv A out s H vs Q E hgu hr h => ?_)
  · obtain ⟨a, ns, rfl, _⟩ := h
    rfl
  · obtain ⟨a, ns, rfl, hL, hlen, q⟩ := h
    refine ⟨_, show PSs (Cx.nox (cxOf CX0 P w K mg base ["_law_script", "_law_bag_here", "_law_turn", "_law_kinds_here", "_law_far", "_law_more", "_law_train_here", "_law_row", "_law_many", "_law_some", "_law_step"] "law" (defScope s_law) fa cdv A out s H E)) (defBody s_law) _ from pss_cons (ps_set (i := 1) sc_law.nd rfl (by first | exact Or.inl rfl | exact Or.inr rfl) (pe_callG GB hgu (hr.mono (by decide)) (by rfl) mB kB bB (pa_cons (pv 0) pa_nil)))
      (law_rest cdv A out s H E hgu hr hS hB hW G_L_take G_L_kinds G_L_train G_L_freed G_train_about G_L_same G_train_ends G_carts_of G_row_about G_row_ends G_carts_in G_about G_L_round G_joined), ?_⟩
    refine ⟨.ref a, rfl, a, ns, rfl, hL, hlen, fun H1 b c l ne ec eb => ?_⟩
    have BO : BagOk ⟨0, 1234567891, 0, ns.map absI⟩ := ⟨Int.le_refl _, ⟨by show (0 : Int) ≤ 1234567891; decide, by show (1234567891 : Int) < 2147483647; decide⟩, Int.le_refl _, fun z hz => by
      simp only [List.mem_map] at hz
      obtain ⟨i, _, rfl⟩ := hz
      exact abs_nn i⟩
    have hr1 : HR (b, c) ⟨0, 1234567891, 0, ns.map absI⟩ (upd (fun _ => none) c (.lst ((ns.map absI).map V.int))) H1 := by
      refine ⟨fun x o h => ?_, ?_, ⟨eb, upd_same⟩, BO⟩
      · by_cases e : x = c
        · rw [e, upd_same] at h; rw [e, ec]; exact h
        · rw [upd_ne e] at h; cases h
      · exact upd_ne ne
    obtain ⟨B', hlaw⟩ := lawS_ok BO (x0 := none) (x2 := none) (x3 := none) (x4 := none) (x5 := none) (x6 := none) (x7 := none) (x8 := none) (x9 := none) (x10 := none)
    refine ⟨(b, c), H1, _, [none, some .bg, none, none, none, none, none, none, none, none, none], _, _, ⟨hr1, Gr.refl hr1.fb, ?_, ?_, ?_⟩, ?_⟩
    · rfl
    · intro i e he
      match i, he with
      | 0, he => cases he
      | 1, he => cases he; exact ⟨_, rfl, rfl⟩
      | 2, he => cases he
      | 3, he => cases he
      | 4, he => cases he
      | 5, he => cases he
      | 6, he => cases he
      | 7, he => cases he
      | 8, he => cases he
      | 9, he => cases he
      | 10, he => cases he
      | n + 11, he => simp at he
    · intro i j d d' _ he
      match i, he with
      | 0, he => cases he
      | 1, he => cases he
      | 2, he => cases he
      | 3, he => cases he
      | 4, he => cases he
      | 5, he => cases he
      | 6, he => cases he
      | 7, he => cases he
      | 8, he => cases he
      | 9, he => cases he
      | 10, he => cases he
      | n + 11, he => simp at he
    · rw [hlaw]
      intro v H0' H' _ _ r
      have hv : v = .bl true := Dn.bl_inv r
      rw [hv]
      exact q H'
end
end K18
namespace K18
open PySem PySem.Spec PyProof.Rows L2 Mr
theorem all_mk {l : PySem.W.OpenLaw} {w : World} {K : PySem.W.Frag} {h : Heap} {mg : Str → Option Value} {fa f1 f2 f3 f4 f5 f6 f7 f8 f9 f10 f11 f12 f13 f14 f15 f16 f17 f18 f19 f20 f21 f22 f23 f24 f25 f26 f27 f28 f29 : Addr} (X : K.In h) (G : h.Ns mainGlobals mg) (hfa : mg "law" = some (.ref fa))
    {od1 od2 od3 od4 od5 od6 od7 od8 od9 od10 od11 od12 od13 od14 od15 od16 od17 od18 od19 od20 od21 od22 od23 od24 od25 od26 od27 od28 od29 an1 an2 an3 an4 an5 an6 an7 an8 an9 an10 an11 an12 an13 an14 an15 an16 an17 an18 an19 an20 an21 an22 an23 an24 an25 an26 an27 an28 an29 : Option Addr} {sl1 sl2 sl3 sl4 sl5 sl6 sl7 sl8 sl9 sl10 sl11 sl12 sl13 sl14 sl15 sl16 sl17 sl18 sl19 sl20 sl21 sl22 sl23 sl24 sl25 sl26 sl27 sl28 sl29 : Array (Option Value)} {oc1 kV1 dc1 pm1 cd1 ct1 oc2 kV2 dc2 pm2 cd2 ct2 oc3 kV3 dc3 pm3 cd3 ct3 oc4 kV4 dc4 pm4 cd4 ct4 oc5 kV5 dc5 pm5 cd5 ct5 oc6 kV6 dc6 pm6 cd6 ct6 oc7 kV7 dc7 pm7 cd7 ct7 oc8 kV8 dc8 pm8 cd8 ct8 oc9 kV9 dc9 pm9 cd9 ct9 oc10 kV10 dc10 pm10 cd10 ct10 oc11 kV11 dc11 pm11 cd11 ct11 oc12 kV12 dc12 pm12 cd12 ct12 oc13 kV13 dc13 pm13 cd13 ct13 oc14 kV14 dc14 pm14 cd14 ct14 oc15 kV15 dc15 pm15 cd15 ct15 oc16 kV16 dc16 pm16 cd16 ct16 oc17 kV17 dc17 pm17 cd17 ct17 oc18 kV18 dc18 pm18 cd18 ct18 oc19 kV19 dc19 pm19 cd19 ct19 oc20 kV20 dc20 pm20 cd20 ct20 oc21 kV21 dc21 pm21 cd21 ct21 oc22 kV22 dc22 pm22 cd22 ct22 oc23 kV23 dc23 pm23 cd23 ct23 oc24 kV24 dc24 pm24 cd24 ct24 oc25 kV25 dc25 pm25 cd25 ct25 oc26 kV26 dc26 pm26 cd26 ct26 oc27 kV27 dc27 pm27 cd27 ct27 oc28 kV28 dc28 pm28 cd28 ct28 oc29 kV29 dc29 pm29 cd29 ct29 : Value}
    (a1 : PySem.W.nsIn K mainGlobals "begin_of" = some (some (.ref f1))) (l1 : K.lookup f1 = some ⟨oc1, od1, .func (PySem.W.fnOf "begin_of" "begin_of" (defArgs s_begin_of) (defBody s_begin_of) (defScope s_begin_of) .none kV1 dc1 pm1 an1 cd1 ct1), sl1⟩) (c1 : PySem.W.codeIn K cd1 "begin_of" = true) (k1 : PySem.W.keepIn K (.ref f1) = true)
    (a2 : PySem.W.nsIn K mainGlobals "end_of" = some (some (.ref f2))) (l2 : K.lookup f2 = some ⟨oc2, od2, .func (PySem.W.fnOf "end_of" "end_of" (defArgs s_end_of) (defBody s_end_of) (defScope s_end_of) .none kV2 dc2 pm2 an2 cd2 ct2), sl2⟩) (c2 : PySem.W.codeIn K cd2 "end_of" = true) (k2 : PySem.W.keepIn K (.ref f2) = true)
    (a3 : PySem.W.nsIn K mainGlobals "about" = some (some (.ref f3))) (l3 : K.lookup f3 = some ⟨oc3, od3, .func (PySem.W.fnOf "about" "about" (defArgs s_about) (defBody s_about) (defScope s_about) .none kV3 dc3 pm3 an3 cd3 ct3), sl3⟩) (c3 : PySem.W.codeIn K cd3 "about" = true) (k3 : PySem.W.keepIn K (.ref f3) = true)
    (a4 : PySem.W.nsIn K mainGlobals "is_integer" = some (some (.ref f4))) (l4 : K.lookup f4 = some ⟨oc4, od4, .func (PySem.W.fnOf "is_integer" "is_integer" (defArgs s_is_integer) (defBody s_is_integer) (defScope s_is_integer) .none kV4 dc4 pm4 an4 cd4 ct4), sl4⟩) (c4 : PySem.W.codeIn K cd4 "is_integer" = true) (k4 : PySem.W.keepIn K (.ref f4) = true)
    (a5 : PySem.W.nsIn K mainGlobals "is_number" = some (some (.ref f5))) (l5 : K.lookup f5 = some ⟨oc5, od5, .func (PySem.W.fnOf "is_number" "is_number" (defArgs s_is_number) (defBody s_is_number) (defScope s_is_number) .none kV5 dc5 pm5 an5 cd5 ct5), sl5⟩) (c5 : PySem.W.codeIn K cd5 "is_number" = true) (k5 : PySem.W.keepIn K (.ref f5) = true)
    (a6 : PySem.W.nsIn K mainGlobals "row_ends" = some (some (.ref f6))) (l6 : K.lookup f6 = some ⟨oc6, od6, .func (PySem.W.fnOf "row_ends" "row_ends" (defArgs s_row_ends) (defBody s_row_ends) (defScope s_row_ends) .none kV6 dc6 pm6 an6 cd6 ct6), sl6⟩) (c6 : PySem.W.codeIn K cd6 "row_ends" = true) (k6 : PySem.W.keepIn K (.ref f6) = true)
    (a7 : PySem.W.nsIn K mainGlobals "carts_in" = some (some (.ref f7))) (l7 : K.lookup f7 = some ⟨oc7, od7, .func (PySem.W.fnOf "carts_in" "carts_in" (defArgs s_carts_in) (defBody s_carts_in) (defScope s_carts_in) .none kV7 dc7 pm7 an7 cd7 ct7), sl7⟩) (c7 : PySem.W.codeIn K cd7 "carts_in" = true) (k7 : PySem.W.keepIn K (.ref f7) = true)
    (a8 : PySem.W.nsIn K mainGlobals "row_about" = some (some (.ref f8))) (l8 : K.lookup f8 = some ⟨oc8, od8, .func (PySem.W.fnOf "row_about" "row_about" (defArgs s_row_about) (defBody s_row_about) (defScope s_row_about) .none kV8 dc8 pm8 an8 cd8 ct8), sl8⟩) (c8 : PySem.W.codeIn K cd8 "row_about" = true) (k8 : PySem.W.keepIn K (.ref f8) = true)
    (a9 : PySem.W.nsIn K mainGlobals "train_ends" = some (some (.ref f9))) (l9 : K.lookup f9 = some ⟨oc9, od9, .func (PySem.W.fnOf "train_ends" "train_ends" (defArgs s_train_ends) (defBody s_train_ends) (defScope s_train_ends) .none kV9 dc9 pm9 an9 cd9 ct9), sl9⟩) (c9 : PySem.W.codeIn K cd9 "train_ends" = true) (k9 : PySem.W.keepIn K (.ref f9) = true)
    (a10 : PySem.W.nsIn K mainGlobals "carts_of" = some (some (.ref f10))) (l10 : K.lookup f10 = some ⟨oc10, od10, .func (PySem.W.fnOf "carts_of" "carts_of" (defArgs s_carts_of) (defBody s_carts_of) (defScope s_carts_of) .none kV10 dc10 pm10 an10 cd10 ct10), sl10⟩) (c10 : PySem.W.codeIn K cd10 "carts_of" = true) (k10 : PySem.W.keepIn K (.ref f10) = true)
    (a11 : PySem.W.nsIn K mainGlobals "length" = some (some (.ref f11))) (l11 : K.lookup f11 = some ⟨oc11, od11, .func (PySem.W.fnOf "length" "length" (defArgs s_length) (defBody s_length) (defScope s_length) .none kV11 dc11 pm11 an11 cd11 ct11), sl11⟩) (c11 : PySem.W.codeIn K cd11 "length" = true) (k11 : PySem.W.keepIn K (.ref f11) = true)
    (a12 : PySem.W.nsIn K mainGlobals "step_at" = some (some (.ref f12))) (l12 : K.lookup f12 = some ⟨oc12, od12, .func (PySem.W.fnOf "step_at" "step_at" (defArgs s_step_at) (defBody s_step_at) (defScope s_step_at) .none kV12 dc12 pm12 an12 cd12 ct12), sl12⟩) (c12 : PySem.W.codeIn K cd12 "step_at" = true) (k12 : PySem.W.keepIn K (.ref f12) = true)
    (a13 : PySem.W.nsIn K mainGlobals "copied" = some (some (.ref f13))) (l13 : K.lookup f13 = some ⟨oc13, od13, .func (PySem.W.fnOf "copied" "copied" (defArgs s_copied) (defBody s_copied) (defScope s_copied) .none kV13 dc13 pm13 an13 cd13 ct13), sl13⟩) (c13 : PySem.W.codeIn K cd13 "copied" = true) (k13 : PySem.W.keepIn K (.ref f13) = true)
    (a14 : PySem.W.nsIn K mainGlobals "joined" = some (some (.ref f14))) (l14 : K.lookup f14 = some ⟨oc14, od14, .func (PySem.W.fnOf "joined" "joined" (defArgs s_joined) (defBody s_joined) (defScope s_joined) .none kV14 dc14 pm14 an14 cd14 ct14), sl14⟩) (c14 : PySem.W.codeIn K cd14 "joined" = true) (k14 : PySem.W.keepIn K (.ref f14) = true)
    (a15 : PySem.W.nsIn K mainGlobals "train_about" = some (some (.ref f15))) (l15 : K.lookup f15 = some ⟨oc15, od15, .func (PySem.W.fnOf "train_about" "train_about" (defArgs s_train_about) (defBody s_train_about) (defScope s_train_about) .none kV15 dc15 pm15 an15 cd15 ct15), sl15⟩) (c15 : PySem.W.codeIn K cd15 "train_about" = true) (k15 : PySem.W.keepIn K (.ref f15) = true)
    (a16 : PySem.W.nsIn K mainGlobals "_law_take" = some (some (.ref f16))) (l16 : K.lookup f16 = some ⟨oc16, od16, .func (PySem.W.fnOf "_law_take" "_law_take" (defArgs s_L_take) (defBody s_L_take) (defScope s_L_take) .none kV16 dc16 pm16 an16 cd16 ct16), sl16⟩) (c16 : PySem.W.codeIn K cd16 "_law_take" = true) (k16 : PySem.W.keepIn K (.ref f16) = true)
    (a17 : PySem.W.nsIn K mainGlobals "_law_one" = some (some (.ref f17))) (l17 : K.lookup f17 = some ⟨oc17, od17, .func (PySem.W.fnOf "_law_one" "_law_one" (defArgs s_L_one) (defBody s_L_one) (defScope s_L_one) .none kV17 dc17 pm17 an17 cd17 ct17), sl17⟩) (c17 : PySem.W.codeIn K cd17 "_law_one" = true) (k17 : PySem.W.keepIn K (.ref f17) = true)
    (a18 : PySem.W.nsIn K mainGlobals "_law_kinds" = some (some (.ref f18))) (l18 : K.lookup f18 = some ⟨oc18, od18, .func (PySem.W.fnOf "_law_kinds" "_law_kinds" (defArgs s_L_kinds) (defBody s_L_kinds) (defScope s_L_kinds) .none kV18 dc18 pm18 an18 cd18 ct18), sl18⟩) (c18 : PySem.W.codeIn K cd18 "_law_kinds" = true) (k18 : PySem.W.keepIn K (.ref f18) = true)
    (a19 : PySem.W.nsIn K mainGlobals "_law_number" = some (some (.ref f19))) (l19 : K.lookup f19 = some ⟨oc19, od19, .func (PySem.W.fnOf "_law_number" "_law_number" (defArgs s_L_number) (defBody s_L_number) (defScope s_L_number) .none kV19 dc19 pm19 an19 cd19 ct19), sl19⟩) (c19 : PySem.W.codeIn K cd19 "_law_number" = true) (k19 : PySem.W.keepIn K (.ref f19) = true)
    (a20 : PySem.W.nsIn K mainGlobals "_law_begin" = some (some (.ref f20))) (l20 : K.lookup f20 = some ⟨oc20, od20, .func (PySem.W.fnOf "_law_begin" "_law_begin" (defArgs s_L_begin) (defBody s_L_begin) (defScope s_L_begin) .none kV20 dc20 pm20 an20 cd20 ct20), sl20⟩) (c20 : PySem.W.codeIn K cd20 "_law_begin" = true) (k20 : PySem.W.keepIn K (.ref f20) = true)
    (a21 : PySem.W.nsIn K mainGlobals "_law_end" = some (some (.ref f21))) (l21 : K.lookup f21 = some ⟨oc21, od21, .func (PySem.W.fnOf "_law_end" "_law_end" (defArgs s_L_end) (defBody s_L_end) (defScope s_L_end) .none kV21 dc21 pm21 an21 cd21 ct21), sl21⟩) (c21 : PySem.W.codeIn K cd21 "_law_end" = true) (k21 : PySem.W.keepIn K (.ref f21) = true)
    (a22 : PySem.W.nsIn K mainGlobals "_law_step_on" = some (some (.ref f22))) (l22 : K.lookup f22 = some ⟨oc22, od22, .func (PySem.W.fnOf "_law_step_on" "_law_step_on" (defArgs s_L_step_on) (defBody s_L_step_on) (defScope s_L_step_on) .none kV22 dc22 pm22 an22 cd22 ct22), sl22⟩) (c22 : PySem.W.codeIn K cd22 "_law_step_on" = true) (k22 : PySem.W.keepIn K (.ref f22) = true)
    (a23 : PySem.W.nsIn K mainGlobals "_law_row_from" = some (some (.ref f23))) (l23 : K.lookup f23 = some ⟨oc23, od23, .func (PySem.W.fnOf "_law_row_from" "_law_row_from" (defArgs s_L_row_from) (defBody s_L_row_from) (defScope s_L_row_from) .none kV23 dc23 pm23 an23 cd23 ct23), sl23⟩) (c23 : PySem.W.codeIn K cd23 "_law_row_from" = true) (k23 : PySem.W.keepIn K (.ref f23) = true)
    (a24 : PySem.W.nsIn K mainGlobals "_law_round" = some (some (.ref f24))) (l24 : K.lookup f24 = some ⟨oc24, od24, .func (PySem.W.fnOf "_law_round" "_law_round" (defArgs s_L_round) (defBody s_L_round) (defScope s_L_round) .none kV24 dc24 pm24 an24 cd24 ct24), sl24⟩) (c24 : PySem.W.codeIn K cd24 "_law_round" = true) (k24 : PySem.W.keepIn K (.ref f24) = true)
    (a25 : PySem.W.nsIn K mainGlobals "_law_train" = some (some (.ref f25))) (l25 : K.lookup f25 = some ⟨oc25, od25, .func (PySem.W.fnOf "_law_train" "_law_train" (defArgs s_L_train) (defBody s_L_train) (defScope s_L_train) .none kV25 dc25 pm25 an25 cd25 ct25), sl25⟩) (c25 : PySem.W.codeIn K cd25 "_law_train" = true) (k25 : PySem.W.keepIn K (.ref f25) = true)
    (a26 : PySem.W.nsIn K mainGlobals "_law_freed" = some (some (.ref f26))) (l26 : K.lookup f26 = some ⟨oc26, od26, .func (PySem.W.fnOf "_law_freed" "_law_freed" (defArgs s_L_freed) (defBody s_L_freed) (defScope s_L_freed) .none kV26 dc26 pm26 an26 cd26 ct26), sl26⟩) (c26 : PySem.W.codeIn K cd26 "_law_freed" = true) (k26 : PySem.W.keepIn K (.ref f26) = true)
    (a27 : PySem.W.nsIn K mainGlobals "_law_same" = some (some (.ref f27))) (l27 : K.lookup f27 = some ⟨oc27, od27, .func (PySem.W.fnOf "_law_same" "_law_same" (defArgs s_L_same) (defBody s_L_same) (defScope s_L_same) .none kV27 dc27 pm27 an27 cd27 ct27), sl27⟩) (c27 : PySem.W.codeIn K cd27 "_law_same" = true) (k27 : PySem.W.keepIn K (.ref f27) = true)
    (a28 : PySem.W.nsIn K mainGlobals "_law_bag" = some (some (.ref f28))) (l28 : K.lookup f28 = some ⟨oc28, od28, .func (PySem.W.fnOf "_law_bag" "_law_bag" (defArgs s_bag) (defBody s_bag) (defScope s_bag) .none kV28 dc28 pm28 an28 cd28 ct28), sl28⟩) (c28 : PySem.W.codeIn K cd28 "_law_bag" = true) (k28 : PySem.W.keepIn K (.ref f28) = true)
    (a29 : PySem.W.nsIn K mainGlobals "law" = some (some (.ref f29))) (l29 : K.lookup f29 = some ⟨oc29, od29, .func (PySem.W.fnOf "law" "law" (defArgs s_law) (defBody s_law) (defScope s_law) .none kV29 dc29 pm29 an29 cd29 ct29), sl29⟩) (c29 : PySem.W.codeIn K cd29 "law" = true) (k29 : PySem.W.keepIn K (.ref f29) = true)
    (z_len : PySem.W.nsIn K mainGlobals "len" = some none)
    (z_abs : PySem.W.nsIn K mainGlobals "abs" = some none)
    (z_sorted : PySem.W.nsIn K mainGlobals "sorted" = some none)
    (z_repr : PySem.W.nsIn K mainGlobals "repr" = some none)
    (z_min : PySem.W.nsIn K mainGlobals "min" = some none)
    (z_max : PySem.W.nsIn K mainGlobals "max" = some none)
    (z_all : PySem.W.nsIn K mainGlobals "all" = some none)
    (z_any : PySem.W.nsIn K mainGlobals "any" = some none)
    (z_sum : PySem.W.nsIn K mainGlobals "sum" = some none)
    (z_int : PySem.W.nsIn K mainGlobals "int" = some none)
    (z_list : PySem.W.nsIn K mainGlobals "list" = some none)
    (z_tuple : PySem.W.nsIn K mainGlobals "tuple" = some none)
    (z_bool : PySem.W.nsIn K mainGlobals "bool" = some none)
    (z_str : PySem.W.nsIn K mainGlobals "str" = some none)
    (z_dict : PySem.W.nsIn K mainGlobals "dict" = some none)
    (z_range : PySem.W.nsIn K mainGlobals "range" = some none)
    (z_zip : PySem.W.nsIn K mainGlobals "zip" = some none)
    (z_enumerate : PySem.W.nsIn K mainGlobals "enumerate" = some none)
    (z_isinstance : PySem.W.nsIn K mainGlobals "isinstance" = some none) :
    ∃ fd : FuncData, (∀ (s : Shared) (v : Value), BindsTo s fd ⟨[v], []⟩ [("_law_script", v)]) ∧ ∀ base : Heap, K.In base → base.Ns mainGlobals mg → (∃ o, base.get? sysModules = some o) → FnG l.prog w K mg base 6 fa fd ["_law_script"] (spLaw K) := by
  letI : Wd := ⟨w⟩
  have hW : w = Wd.w := rfl
  have e := hfa.symm.trans (PySem.W.mg_of X G a29)
  cases e
  have F1 := fun_mk (st := s_begin_of) l1 c1 k1
  have F2 := fun_mk (st := s_end_of) l2 c2 k2
  have F3 := fun_mk (st := s_about) l3 c3 k3
  have F4 := fun_mk (st := s_is_integer) l4 c4 k4
  have F5 := fun_mk (st := s_is_number) l5 c5 k5
  have F6 := fun_mk (st := s_row_ends) l6 c6 k6
  have F7 := fun_mk (st := s_carts_in) l7 c7 k7
  have F8 := fun_mk (st := s_row_about) l8 c8 k8
  have F9 := fun_mk (st := s_train_ends) l9 c9 k9
  have F10 := fun_mk (st := s_carts_of) l10 c10 k10
  have F11 := fun_mk (st := s_length) l11 c11 k11
  have F12 := fun_mk (st := s_step_at) l12 c12 k12
  have F13 := fun_mk (st := s_copied) l13 c13 k13
  have F14 := fun_mk (st := s_joined) l14 c14 k14
  have F15 := fun_mk (st := s_train_about) l15 c15 k15
  have F16 := fun_mk (st := s_L_take) l16 c16 k16
  have F17 := fun_mk (st := s_L_one) l17 c17 k17
  have F18 := fun_mk (st := s_L_kinds) l18 c18 k18
  have F19 := fun_mk (st := s_L_number) l19 c19 k19
  have F20 := fun_mk (st := s_L_begin) l20 c20 k20
  have F21 := fun_mk (st := s_L_end) l21 c21 k21
  have F22 := fun_mk (st := s_L_step_on) l22 c22 k22
  have F23 := fun_mk (st := s_L_row_from) l23 c23 k23
  have F24 := fun_mk (st := s_L_round) l24 c24 k24
  have F25 := fun_mk (st := s_L_train) l25 c25 k25
  have F26 := fun_mk (st := s_L_freed) l26 c26 k26
  have F27 := fun_mk (st := s_L_same) l27 c27 k27
  have F28 := fun_mk (st := s_bag) l28 c28 k28
  have F29 := fun_mk (st := s_law) l29 c29 k29
  have b1 := F1.binds (ps := ["step"]) fun _ _ _ _ _ _ us hl => match us, hl with | [_], _ => rfl
  have b2 := F2.binds (ps := ["step"]) fun _ _ _ _ _ _ us hl => match us, hl with | [_], _ => rfl
  have b3 := F3.binds (ps := ["step"]) fun _ _ _ _ _ _ us hl => match us, hl with | [_], _ => rfl
  have b4 := F4.binds (ps := ["thing"]) fun _ _ _ _ _ _ us hl => match us, hl with | [_], _ => rfl
  have b5 := F5.binds (ps := ["least", "thing"]) fun _ _ _ _ _ _ us hl => match us, hl with | [_, _], _ => rfl
  have b6 := F6.binds (ps := ["row"]) fun _ _ _ _ _ _ us hl => match us, hl with | [_], _ => rfl
  have b7 := F7.binds (ps := ["row"]) fun _ _ _ _ _ _ us hl => match us, hl with | [_], _ => rfl
  have b8 := F8.binds (ps := ["row"]) fun _ _ _ _ _ _ us hl => match us, hl with | [_], _ => rfl
  have b9 := F9.binds (ps := ["train"]) fun _ _ _ _ _ _ us hl => match us, hl with | [_], _ => rfl
  have b10 := F10.binds (ps := ["train"]) fun _ _ _ _ _ _ us hl => match us, hl with | [_], _ => rfl
  have b11 := F11.binds (ps := ["train"]) fun _ _ _ _ _ _ us hl => match us, hl with | [_], _ => rfl
  have b12 := F12.binds (ps := ["train", "index"]) fun _ _ _ _ _ _ us hl => match us, hl with | [_, _], _ => rfl
  have b13 := F13.binds (ps := ["train"]) fun _ _ _ _ _ _ us hl => match us, hl with | [_], _ => rfl
  have b14 := F14.binds (ps := ["one", "other"]) fun _ _ _ _ _ _ us hl => match us, hl with | [_, _], _ => rfl
  have b15 := F15.binds (ps := ["train"]) fun _ _ _ _ _ _ us hl => match us, hl with | [_], _ => rfl
  have b16 := F16.binds (ps := ["_law_bag_here", "_law_many"]) fun _ _ _ _ _ _ us hl => match us, hl with | [_, _], _ => rfl
  have b17 := F17.binds (ps := ["_law_bag_here", "_law_things"]) fun _ _ _ _ _ _ us hl => match us, hl with | [_, _], _ => rfl
  have b18 := F18.binds (ps := ["_law_bag_here", "_law_many"]) fun _ _ _ _ _ _ us hl => match us, hl with | [_, _], _ => rfl
  have b19 := F19.binds (ps := ["_law_bag_here"]) fun _ _ _ _ _ _ us hl => match us, hl with | [_], _ => rfl
  have b20 := F20.binds (ps := ["_law_step"]) fun _ _ _ _ _ _ us hl => match us, hl with | [_], _ => rfl
  have b21 := F21.binds (ps := ["_law_step"]) fun _ _ _ _ _ _ us hl => match us, hl with | [_], _ => rfl
  have b22 := F22.binds (ps := ["_law_bag_here", "_law_here", "_law_there"]) fun _ _ _ _ _ _ us hl => match us, hl with | [_, _, _], _ => rfl
  have b23 := F23.binds (ps := ["_law_bag_here", "_law_kinds_here", "_law_here", "_law_upto"]) fun _ _ _ _ _ _ us hl => match us, hl with | [_, _, _, _], _ => rfl
  have b24 := F24.binds (ps := ["_law_bag_here", "_law_kinds_here", "_law_here", "_law_upto"]) fun _ _ _ _ _ _ us hl => match us, hl with | [_, _, _, _], _ => rfl
  have b25 := F25.binds (ps := ["_law_bag_here", "_law_kinds_here", "_law_upto"]) fun _ _ _ _ _ _ us hl => match us, hl with | [_, _, _], _ => rfl
  have b26 := F26.binds (ps := ["_law_train_here"]) fun _ _ _ _ _ _ us hl => match us, hl with | [_], _ => rfl
  have b27 := F27.binds (ps := ["_law_bag_here", "_law_one_here", "_law_other"]) fun _ _ _ _ _ _ us hl => match us, hl with | [_, _, _], _ => rfl
  have b28 := F28.binds (ps := ["_law_script"]) fun _ _ _ _ _ _ us hl => match us, hl with | [_], _ => rfl
  have hB : Bl mg := ⟨PySem.W.mg_none_of X G z_len, PySem.W.mg_none_of X G z_abs, PySem.W.mg_none_of X G z_sorted, PySem.W.mg_none_of X G z_repr, PySem.W.mg_none_of X G z_min, PySem.W.mg_none_of X G z_max, PySem.W.mg_none_of X G z_all, PySem.W.mg_none_of X G z_any, PySem.W.mg_none_of X G z_sum, PySem.W.mg_none_of X G z_int, PySem.W.mg_none_of X G z_list, PySem.W.mg_none_of X G z_tuple, PySem.W.mg_none_of X G z_bool, PySem.W.mg_none_of X G z_str, PySem.W.mg_none_of X G z_dict, PySem.W.mg_none_of X G z_range, PySem.W.mg_none_of X G z_zip, PySem.W.mg_none_of X G z_enumerate, PySem.W.mg_none_of X G z_isinstance⟩
  refine ⟨PySem.W.fnOf "law" "law" (defArgs s_law) (defBody s_law) (defScope s_law) .none kV29 dc29 pm29 an29 cd29 ct29, fun s v => .of_eq rfl, fun base _ _ hS => ?_⟩
  have G_begin_of := ok_begin_of (P := l.prog) (w := w) (base := base) F1 (PySem.W.mg_of X G a1) b1
  have G_end_of := ok_end_of (P := l.prog) (w := w) (base := base) F2 (PySem.W.mg_of X G a2) b2
  have G_about := ok_about (P := l.prog) (w := w) (base := base) F3 (PySem.W.mg_of X G a3) b3
  have G_is_integer := ok_is_integer (P := l.prog) (w := w) (base := base) F4 (PySem.W.mg_of X G a4) b4 hB
  have G_is_number := ok_is_number (P := l.prog) (w := w) (base := base) F5 (PySem.W.mg_of X G a5) b5 G_is_integer
  have G_row_ends := ok_row_ends (P := l.prog) (w := w) (base := base) F6 (PySem.W.mg_of X G a6) b6 G_begin_of G_end_of
  have G_carts_in := ok_carts_in (P := l.prog) (w := w) (base := base) hW F7 (PySem.W.mg_of X G a7) b7 hB
  have G_row_about := ok_row_about (P := l.prog) (w := w) (base := base) F8 (PySem.W.mg_of X G a8) b8 hB G_about
  have G_train_ends := ok_train_ends (P := l.prog) (w := w) (base := base) F9 (PySem.W.mg_of X G a9) b9 G_row_ends
  have G_carts_of := ok_carts_of (P := l.prog) (w := w) (base := base) hW F10 (PySem.W.mg_of X G a10) b10 hB G_carts_in
  have G_length := ok_length (P := l.prog) (w := w) (base := base) F11 (PySem.W.mg_of X G a11) b11 hB
  have G_step_at := ok_step_at (P := l.prog) (w := w) (base := base) F12 (PySem.W.mg_of X G a12) b12 hB G_is_number
  have G_copied := ok_copied (P := l.prog) (w := w) (base := base) F13 (PySem.W.mg_of X G a13) b13 hB
  have G_joined := ok_joined (P := l.prog) (w := w) (base := base) F14 (PySem.W.mg_of X G a14) b14 G_train_ends G_copied
  have G_train_about := ok_train_about (P := l.prog) (w := w) (base := base) F15 (PySem.W.mg_of X G a15) b15 hB G_row_about
  have G_L_take := ok_L_take (P := l.prog) (w := w) (base := base) F16 (PySem.W.mg_of X G a16) b16 hB
  have G_L_one := ok_L_one (P := l.prog) (w := w) (base := base) F17 (PySem.W.mg_of X G a17) b17 hB G_L_take
  have G_L_kinds := ok_L_kinds (P := l.prog) (w := w) (base := base) F18 (PySem.W.mg_of X G a18) b18 hB G_L_take
  have G_L_number := ok_L_number (P := l.prog) (w := w) (base := base) F19 (PySem.W.mg_of X G a19) b19 G_L_take
  have G_L_begin := ok_L_begin (P := l.prog) (w := w) (base := base) F20 (PySem.W.mg_of X G a20) b20
  have G_L_end := ok_L_end (P := l.prog) (w := w) (base := base) F21 (PySem.W.mg_of X G a21) b21
  have G_L_step_on := ok_L_step_on (P := l.prog) (w := w) (base := base) F22 (PySem.W.mg_of X G a22) b22 hB G_L_take
  have G_L_row_from := ok_L_row_from (P := l.prog) (w := w) (base := base) F23 (PySem.W.mg_of X G a23) b23 hB G_L_take G_L_one G_L_step_on
  have G_L_round := ok_L_round (P := l.prog) (w := w) (base := base) F24 (PySem.W.mg_of X G a24) b24 G_L_row_from G_L_end G_L_step_on
  have G_L_train := ok_L_train (P := l.prog) (w := w) (base := base) F25 (PySem.W.mg_of X G a25) b25 hB G_L_one G_L_take G_L_number G_L_round G_L_row_from G_L_end
  have G_L_freed := ok_L_freed (P := l.prog) (w := w) (base := base) F26 (PySem.W.mg_of X G a26) b26 hB G_L_begin G_L_end
  have G_L_same := ok_L_same (P := l.prog) (w := w) (base := base) hW F27 (PySem.W.mg_of X G a27) b27 hB G_length G_carts_of G_train_ends G_L_take G_step_at
  exact ok_law F29 hS (ok_bag F28 hB) (PySem.W.mg_of X G a28) F28.kp b28 hB hW G_L_take G_L_kinds G_L_train G_L_freed G_train_about G_L_same G_train_ends G_carts_of G_row_about G_row_ends G_carts_in G_about G_L_round G_joined
end K18
open PySem PySem.W PyProof.Rows
set_option maxHeartbeats 0 in
theorem PySem.Challenge.cw_hookcarts_k18_whole_about_twice_holds : PySem.Challenge.rw_hookcarts_k18_whole_about_twice.Holds := by
  w_on; o_law; k_head; (case hw => w_witness2)
  k_fill
  refine Mr.walk_ofS (l := PySem.Challenge.rw_hookcarts_k18_whole_about_twice) (n := 63) (k := 6) (x := "_law_script") (sp := fun w => K18.spLaw _) (by decide +kernel) rfl (by decide) rfl ⟨rfl, by decide, by decide⟩ (fun w h Y => PySem.W.kIn_of Y) ?F (fun _ _ a ns hl _ _ hS => ⟨a, ns, rfl, hS, hl, fun _ => rfl⟩)
  case F =>
    intro w mg fa h KX G hmg
    refine' K18.all_mk KX G hmg ?a1 ?l1 ?c1 ?k1 ?a2 ?l2 ?c2 ?k2 ?a3 ?l3 ?c3 ?k3 ?a4 ?l4 ?c4 ?k4 ?a5 ?l5 ?c5 ?k5 ?a6 ?l6 ?c6 ?k6 ?a7 ?l7 ?c7 ?k7 ?a8 ?l8 ?c8 ?k8 ?a9 ?l9 ?c9 ?k9 ?a10 ?l10 ?c10 ?k10 ?a11 ?l11 ?c11 ?k11 ?a12 ?l12 ?c12 ?k12 ?a13 ?l13 ?c13 ?k13 ?a14 ?l14 ?c14 ?k14 ?a15 ?l15 ?c15 ?k15 ?a16 ?l16 ?c16 ?k16 ?a17 ?l17 ?c17 ?k17 ?a18 ?l18 ?c18 ?k18 ?a19 ?l19 ?c19 ?k19 ?a20 ?l20 ?c20 ?k20 ?a21 ?l21 ?c21 ?k21 ?a22 ?l22 ?c22 ?k22 ?a23 ?l23 ?c23 ?k23 ?a24 ?l24 ?c24 ?k24 ?a25 ?l25 ?c25 ?k25 ?a26 ?l26 ?c26 ?k26 ?a27 ?l27 ?c27 ?k27 ?a28 ?l28 ?c28 ?k28 ?a29 ?l29 ?c29 ?k29 ?z_len ?z_abs ?z_sorted ?z_repr ?z_min ?z_max ?z_all ?z_any ?z_sum ?z_int ?z_list ?z_tuple ?z_bool ?z_str ?z_dict ?z_range ?z_zip ?z_enumerate ?z_isinstance
    (case a1 => k_is); (case l1 => k_is); (case c1 => k_is); (case k1 => k_is); (case a2 => k_is); (case l2 => k_is); (case c2 => k_is); (case k2 => k_is); (case a3 => k_is); (case l3 => k_is); (case c3 => k_is); (case k3 => k_is); (case a4 => k_is); (case l4 => k_is); (case c4 => k_is); (case k4 => k_is); (case a5 => k_is); (case l5 => k_is); (case c5 => k_is); (case k5 => k_is); (case a6 => k_is); (case l6 => k_is); (case c6 => k_is); (case k6 => k_is); (case a7 => k_is); (case l7 => k_is); (case c7 => k_is); (case k7 => k_is); (case a8 => k_is); (case l8 => k_is); (case c8 => k_is); (case k8 => k_is); (case a9 => k_is); (case l9 => k_is); (case c9 => k_is); (case k9 => k_is); (case a10 => k_is); (case l10 => k_is); (case c10 => k_is); (case k10 => k_is); (case a11 => k_is); (case l11 => k_is); (case c11 => k_is); (case k11 => k_is); (case a12 => k_is); (case l12 => k_is); (case c12 => k_is); (case k12 => k_is); (case a13 => k_is); (case l13 => k_is); (case c13 => k_is); (case k13 => k_is); (case a14 => k_is); (case l14 => k_is); (case c14 => k_is); (case k14 => k_is); (case a15 => k_is); (case l15 => k_is); (case c15 => k_is); (case k15 => k_is); (case a16 => k_is); (case l16 => k_is); (case c16 => k_is); (case k16 => k_is); (case a17 => k_is); (case l17 => k_is); (case c17 => k_is); (case k17 => k_is); (case a18 => k_is); (case l18 => k_is); (case c18 => k_is); (case k18 => k_is); (case a19 => k_is); (case l19 => k_is); (case c19 => k_is); (case k19 => k_is); (case a20 => k_is); (case l20 => k_is); (case c20 => k_is); (case k20 => k_is); (case a21 => k_is); (case l21 => k_is); (case c21 => k_is); (case k21 => k_is); (case a22 => k_is); (case l22 => k_is); (case c22 => k_is); (case k22 => k_is); (case a23 => k_is); (case l23 => k_is); (case c23 => k_is); (case k23 => k_is); (case a24 => k_is); (case l24 => k_is); (case c24 => k_is); (case k24 => k_is); (case a25 => k_is); (case l25 => k_is); (case c25 => k_is); (case k25 => k_is); (case a26 => k_is); (case l26 => k_is); (case c26 => k_is); (case k26 => k_is); (case a27 => k_is); (case l27 => k_is); (case c27 => k_is); (case k27 => k_is); (case a28 => k_is); (case l28 => k_is); (case c28 => k_is); (case k28 => k_is); (case a29 => k_is); (case l29 => k_is); (case c29 => k_is); (case k29 => k_is); (case z_len => k_is); (case z_abs => k_is); (case z_sorted => k_is); (case z_repr => k_is); (case z_min => k_is); (case z_max => k_is); (case z_all => k_is); (case z_any => k_is); (case z_sum => k_is); (case z_int => k_is); (case z_list => k_is); (case z_tuple => k_is); (case z_bool => k_is); (case z_str => k_is); (case z_dict => k_is); (case z_range => k_is); (case z_zip => k_is); (case z_enumerate => k_is); (case z_isinstance => k_is)
