import PyProof.Rows.All
import HandS.ForMost
import HandS.Defaults
import HandS.IsInst
import HandS.Wide
import HandS.Deep
import HandS.Evl
import HandS.Style
import HandS.ExcSuper
import KE.DataAny
import KE.DataCmp
import KE.DataEq
import KE.DataIsa
import KE.DataMinMax
import KE.SortData
import HandS.EndBits
import HandS.More
import PyProof.ReprBulk
import PyProof.NeKinds
import PySem.Challenge.RW_hookcarts_k14_trains_judged
set_option Elab.async false
set_option linter.all false
set_option maxRecDepth 100000
set_option maxHeartbeats 4000000
namespace Mr
open PySem PySem.Spec PyProof.Rows L2

def keyD : Key → PyData
  | .inl i => .int i
  | .inr x => .str x

mutual
/-- what a value is worth, as data, over the tracked objects -/
inductive Dn (H : Hp) : V → PyData → Prop
  | non : Dn H .non .none
  | bl (b : Bool) : Dn H (.bl b) (.bool b)
  | int (i : Int) : Dn H (.int i) (.int i)
  | str (x : Str) : Dn H (.str x) (.str x)
  | lst {a : Addr} {xs : List V} {ds : List PyData} : H a = some (.lst xs) → DnAll H xs ds → Dn H (.ref a) (.list ds)
  | tup {a : Addr} {xs : List V} {ds : List PyData} : H a = some (.tup xs) → DnAll H xs ds → Dn H (.ref a) (.tuple ds)
  | dct {a : Addr} {kvs : List (Key × V)} {ds : List (PyData × PyData)} : H a = some (.dK kvs) → DnKv H kvs ds → Dn H (.ref a) (.dict ds)
inductive DnAll (H : Hp) : List V → List PyData → Prop
  | nil : DnAll H [] []
  | cons {v : V} {vs : List V} {d : PyData} {ds : List PyData} : Dn H v d → DnAll H vs ds → DnAll H (v :: vs) (d :: ds)
inductive DnKv (H : Hp) : List (Key × V) → List (PyData × PyData) → Prop
  | nil : DnKv H [] []
  | cons {k : Key} {v : V} {kvs : List (Key × V)} {d : PyData} {ds : List (PyData × PyData)} : Dn H v d → DnKv H kvs ds → DnKv H ((k, v) :: kvs) ((keyD k, d) :: ds)
end

def Le (H H' : Hp) : Prop := ∀ a o, H a = some o → H' a = some o
theorem Le.refl (H : Hp) : Le H H := fun _ _ h => h
theorem Le.trans {H H1 H2 : Hp} (a : Le H H1) (b : Le H1 H2) : Le H H2 := fun x o h => b x o (a x o h)
theorem Le.new {H : Hp} {p : Addr} {o : HO} (h : H p = none) : Le H (upd H p o) := fun a u e => by
  rw [upd_ne (ne_of_none e h)]; exact e
theorem Le.upd {H H' : Hp} (l : Le H H') {p : Addr} {o : HO} : Le (upd H p o) (upd H' p o) := fun a u e => by
  by_cases h : a = p
  · subst h; rw [upd_same] at e ⊢; exact e
  · rw [upd_ne h] at e ⊢; exact l a u e
theorem Le.none {H H' : Hp} (l : Le H H') {p : Addr} (h : H' p = none) : H p = none := by
  cases q : H p with
  | none => rfl
  | some o => rw [l p o q] at h; cases h

mutual
theorem Dn.mono {H H' : Hp} (l : Le H H') : ∀ (d : PyData) (v : V), Dn H v d → Dn H' v d
  | .none, _, h => by cases h; exact .non
  | .bool b, _, h => by cases h; exact .bl b
  | .int i, _, h => by cases h; exact .int i
  | .str x, _, h => by cases h; exact .str x
  | .list ds, _, h => by
    cases h with
    | lst e a => exact .lst (l _ _ e) (DnAll.mono l ds _ a)
  | .tuple ds, _, h => by
    cases h with
    | tup e a => exact .tup (l _ _ e) (DnAll.mono l ds _ a)
  | .dict ds, _, h => by
    cases h with
    | dct e a => exact .dct (l _ _ e) (DnKv.mono l ds _ a)
theorem DnAll.mono {H H' : Hp} (l : Le H H') : ∀ (ds : List PyData) (vs : List V), DnAll H vs ds → DnAll H' vs ds
  | [], _, h => by cases h; exact .nil
  | d :: ds, _, h => by
    cases h with
    | cons a b => exact .cons (Dn.mono l d _ a) (DnAll.mono l ds _ b)
theorem DnKv.mono {H H' : Hp} (l : Le H H') : ∀ (ds : List (PyData × PyData)) (kvs : List (Key × V)), DnKv H kvs ds → DnKv H' kvs ds
  | [], _, h => by cases h; exact .nil
  | (_, d) :: ds, _, h => by
    cases h with
    | cons a b => exact .cons (Dn.mono l d _ a) (DnKv.mono l ds _ b)
end
theorem DnAll.length {H : Hp} : ∀ {vs : List V} {ds : List PyData}, DnAll H vs ds → vs.length = ds.length
  | [], _, h => by cases h; rfl
  | _ :: vs, _, h => by
    cases h with
    | cons a b => simp [b.length]
theorem DnAll.append {H : Hp} : ∀ {vs ws : List V} {ds es : List PyData}, DnAll H vs ds → DnAll H ws es → DnAll H (vs ++ ws) (ds ++ es)
  | [], _, _, _, h, g => by cases h; exact g
  | _ :: vs, _, _, _, h, g => by
    cases h with
    | cons a b => exact .cons a (b.append g)
theorem DnAll.get {H : Hp} : ∀ {vs : List V} {ds : List PyData} {i : Nat} {d : PyData}, DnAll H vs ds → ds[i]? = some d → ∃ v, vs[i]? = some v ∧ Dn H v d
  | [], _, _, _, h, e => by cases h; simp at e
  | v :: vs, _, 0, _, h, e => by
    cases h with
    | cons a b => simp at e; subst e; exact ⟨v, rfl, a⟩
  | v :: vs, _, i + 1, _, h, e => by
    cases h with
    | cons a b => simpa using b.get (by simpa using e)
theorem DnAll.get' {H : Hp} : ∀ {vs : List V} {ds : List PyData} {i : Nat} {v : V}, DnAll H vs ds → vs[i]? = some v → ∃ d, ds[i]? = some d ∧ Dn H v d
  | [], _, _, _, h, e => by simp at e
  | w :: vs, _, 0, _, h, e => by
    cases h with
    | cons a b => simp at e; subst e; exact ⟨_, rfl, a⟩
  | w :: vs, _, i + 1, _, h, e => by
    cases h with
    | cons a b => simpa using b.get' (by simpa using e)
theorem DnAll.take {H : Hp} : ∀ {vs : List V} {ds : List PyData} (n : Nat), DnAll H vs ds → DnAll H (vs.take n) (ds.take n)
  | _, _, 0, _ => .nil
  | [], _, n + 1, h => by cases h; exact .nil
  | _ :: vs, _, n + 1, h => by
    cases h with
    | cons a b => exact .cons a (b.take n)
theorem DnAll.drop {H : Hp} : ∀ {vs : List V} {ds : List PyData} (n : Nat), DnAll H vs ds → DnAll H (vs.drop n) (ds.drop n)
  | _, _, 0, h => h
  | [], _, n + 1, h => by cases h; exact .nil
  | _ :: vs, _, n + 1, h => by
    cases h with
    | cons a b => exact b.drop n
theorem DnAll.ints {H : Hp} : ∀ (ns : List Int), DnAll H (ns.map V.int) (ns.map PyData.int)
  | [] => .nil
  | n :: ns => .cons (.int n) (DnAll.ints ns)

theorem Dn.int_inv {H : Hp} {v : V} {i : Int} (h : Dn H v (.int i)) : v = .int i := by cases h; rfl
theorem Dn.str_inv {H : Hp} {v : V} {x : Str} (h : Dn H v (.str x)) : v = .str x := by cases h; rfl
theorem Dn.bl_inv {H : Hp} {v : V} {b : Bool} (h : Dn H v (.bool b)) : v = .bl b := by cases h; rfl
theorem Dn.non_inv {H : Hp} {v : V} (h : Dn H v .none) : v = .non := by cases h; rfl
theorem Dn.lst_inv {H : Hp} {v : V} {ds : List PyData} (h : Dn H v (.list ds)) : ∃ a xs, v = .ref a ∧ H a = some (.lst xs) ∧ DnAll H xs ds := by
  cases h with
  | lst e a => exact ⟨_, _, rfl, e, a⟩
theorem Dn.tup_inv {H : Hp} {v : V} {ds : List PyData} (h : Dn H v (.tuple ds)) : ∃ a xs, v = .ref a ∧ H a = some (.tup xs) ∧ DnAll H xs ds := by
  cases h with
  | tup e a => exact ⟨_, _, rfl, e, a⟩

/-! ### the values of slots and of expressions -/
inductive EV where
  | sh (d : PyData)
  | ow (d : PyData)
  | bg
structure Bag where
  x0 : Int
  x1 : Int
  x2 : Int
  cells : List Int
structure BagOk (B : Bag) : Prop where
  a0 : 0 ≤ B.x0
  a1 : 0 ≤ B.x1 ∧ B.x1 < 2147483647
  a2 : 0 ≤ B.x2
  cs : ∀ c ∈ B.cells, 0 ≤ c
inductive Out (α : Type) where
  | ok (a : α) (B : Bag)
  | bad
abbrev Env := List (Option EV)
abbrev EM := Env → Bag → Out EV
abbrev TM := Env → Bag → Out Bool
abbrev AM := Env → Bag → Out (List EV)
inductive Flow where
  | nx (r : Env) | rt (e : EV) | bk (r : Env) | ct (r : Env)
abbrev SM := Env → Bag → Out Flow

/-- the heap: H0 what is shared data, b the bag -/
structure HR (b : Addr × Addr) (B : Bag) (H0 H : Hp) : Prop where
  le : Le H0 H
  fb : H0 b.1 = none
  bag : H b.1 = some (.lst [.int B.x0, .int B.x1, .int B.x2, .ref b.2]) ∧ H0 b.2 = some (.lst (B.cells.map V.int))
  ok : BagOk B
/-- what stands, but for the bag, stays -/
def Keep (b : Addr × Addr) (H H' : Hp) : Prop := ∀ a o, a ≠ b.1 → H a = some o → H' a = some o
theorem Keep.refl (b : Addr × Addr) (H : Hp) : Keep b H H := fun _ _ _ h => h
theorem Keep.trans {b : Addr × Addr} {H H1 H2 : Hp} (x : Keep b H H1) (y : Keep b H1 H2) : Keep b H H2 := fun a o n h => y a o n (x a o n h)
theorem Keep.none {b : Addr × Addr} {H H' : Hp} (k : Keep b H H') {p : Addr} (n : p ≠ b.1) (h : H' p = none) : H p = none := by
  cases q : H p with
  | none => rfl
  | some o => rw [k p o n q] at h; cases h
theorem Keep.of {b : Addr × Addr} {H H' : Hp} (l : Le H H') : Keep b H H' := fun a o _ h => l a o h
def VR (b : Addr × Addr) (He H0 H : Hp) (v : V) : EV → Prop
  | .sh d => Dn H0 v d
  | .ow d => ∃ p vs ds, v = .ref p ∧ p ≠ b.1 ∧ He p = none ∧ H0 p = none ∧ d = .list ds ∧ H p = some (.lst vs) ∧ DnAll H0 vs ds
  | .bg => v = .ref b.1
/-- how heaps grow: what stands, but for the bag, stays; what is shared grows by what is new alone -/
structure Gr (b : Addr × Addr) (H H0 H' H0' : Hp) : Prop where
  kp : Keep b H H'
  l0 : Le H0 H0'
  n0 : ∀ a o, H a = some o → H0 a = none → H0' a = none
  fb : H0' b.1 = none
theorem Gr.refl {b : Addr × Addr} {H H0 : Hp} (h : H0 b.1 = none) : Gr b H H0 H H0 := ⟨Keep.refl _ _, Le.refl _, fun _ _ _ h => h, h⟩
theorem Gr.trans {b : Addr × Addr} {H H0 H1 H01 H2 H02 : Hp} (x : Gr b H H0 H1 H01) (y : Gr b H1 H01 H2 H02) : Gr b H H0 H2 H02 :=
  ⟨x.kp.trans y.kp, x.l0.trans y.l0, fun a o h1 h2 => by
    by_cases e : a = b.1
    · rw [e]; exact y.fb
    · exact y.n0 a o (x.kp a o e h1) (x.n0 a o h1 h2), y.fb⟩
/-- a new object, shared -/
theorem Gr.share {b : Addr × Addr} {p : Addr} {H H0 : Hp} {o : HO} (fb : H0 b.1 = none) (nb : p ≠ b.1) (h : H p = none) (h0 : H0 p = none) : Gr b H H0 (upd H p o) (upd H0 p o) :=
  ⟨Keep.of (Le.new h), Le.new h0, fun a u e n => by rw [upd_ne (ne_of_none e h)]; exact n, by rw [upd_ne nb.symm]; exact fb⟩
theorem Gr.fresh {b : Addr × Addr} {p : Addr} {H H0 : Hp} {o : HO} (fb : H0 b.1 = none) (h : H p = none) : Gr b H H0 (upd H p o) H0 :=
  ⟨Keep.of (Le.new h), Le.refl _, fun a u e n => n, fb⟩
/-- the state in a def: He the heap at its entry -/
structure SR (b : Addr × Addr) (He H0e : Hp) (σ : L2.St) (ρ : Env) (B : Bag) (H0 H : Hp) : Prop where
  hr : HR b B H0 H
  gr : Gr b He H0e H H0
  len : σ.length = ρ.length
  slot : ∀ (i : Nat) e, ρ[i]? = some (some e) → ∃ v, σ[i]? = some (some v) ∧ VR b He H0 H v e
  own : ∀ (i j : Nat) d d', i ≠ j → ρ[i]? = some (some (.ow d)) → ρ[j]? = some (some (.ow d')) → σ[i]? ≠ σ[j]?

/-- an expression's reading by its mirror -/
def rdE (m : EM) : TE := fun σ H Q => ∃ b He H0e ρ B H0, SR b He H0e σ ρ B H0 H ∧ match m ρ B with
  | .ok e B' => ∀ v H0' H', Gr b H H0 H' H0' → SR b He H0e σ ρ B' H0' H' → VR b H H0' H' v e → Q v H'
  | .bad => False
def rdT (m : TM) : TT := fun σ H Q => ∃ b He H0e ρ B H0, SR b He H0e σ ρ B H0 H ∧ match m ρ B with
  | .ok c B' => ∀ H0' H', Gr b H H0 H' H0' → SR b He H0e σ ρ B' H0' H' → Q c H'
  | .bad => False
inductive VRs (b : Addr × Addr) (H0 : Hp) : List V → List EV → Prop
  | nil : VRs b H0 [] []
  | sh {v d vs es} : Dn H0 v d → VRs b H0 vs es → VRs b H0 (v :: vs) (.sh d :: es)
  | bg {vs es} : VRs b H0 vs es → VRs b H0 (.ref b.1 :: vs) (.bg :: es)
/-- an argument list: all is shared -/
def rdA (m : AM) : TA := fun σ H Q => ∃ b He H0e ρ B H0, SR b He H0e σ ρ B H0 H ∧ match m ρ B with
  | .ok es B' => ∀ vs H0' H', Gr b H H0 H' H0' → SR b He H0e σ ρ B' H0' H' → VRs b H0' vs es → Q vs H'
  | .bad => False
def postS (b : Addr × Addr) (He H0e Hs : Hp) (D : Ends) : Out Flow → Prop
  | .ok (.nx ρ') B' => ∀ σ' H0' H', Le Hs H0' → SR b He H0e σ' ρ' B' H0' H' → D.nx σ' H'
  | .ok (.bk ρ') B' => ∀ σ' H0' H', Le Hs H0' → SR b He H0e σ' ρ' B' H0' H' → D.bk σ' H'
  | .ok (.ct ρ') B' => ∀ σ' H0' H', Le Hs H0' → SR b He H0e σ' ρ' B' H0' H' → D.ct σ' H'
  | .ok (.rt e) B' => ∀ v H0' H', HR b B' H0' H' → Gr b He H0e H' H0' → VR b He H0' H' v e → D.rt v H'
  | .bad => False
def rdS (m : SM) : TS := fun D σ H => ∃ b He H0e ρ B H0, SR b He H0e σ ρ B H0 H ∧ postS b He H0e H0 D (m ρ B)
theorem postS.mono {b : Addr × Addr} {He H0e Hs Hs' : Hp} {D : Ends} (l : Le Hs Hs') {o : Out Flow} (q : postS b He H0e Hs D o) : postS b He H0e Hs' D o := by
  match o, q with
  | .ok (.nx ρ') B', q => exact fun σ' H0' H' z => q σ' H0' H' (l.trans z)
  | .ok (.bk ρ') B', q => exact fun σ' H0' H' z => q σ' H0' H' (l.trans z)
  | .ok (.ct ρ') B', q => exact fun σ' H0' H' z => q σ' H0' H' (l.trans z)
  | .ok (.rt e) B', q => exact q
abbrev ME (X : Cx) (e : Expr) (m : EM) : Prop := PE X e (rdE m)
abbrev MT (X : Cx) (e : Expr) (m : TM) : Prop := PT X e (rdT m)
abbrev MA (X : Cx) (es : List Expr) (m : AM) : Prop := PA X es (rdA m)
abbrev MS (X : Cx) (st : Stmt) (m : SM) : Prop := PS X st (rdS m)
abbrev MSs (X : Cx) (st : List Stmt) (m : SM) : Prop := PSs X st (rdS m)

theorem PE.weak {X : Cx} {e : Expr} {t t' : TE} (h : PE X e t) (w : ∀ σ H Q, t' σ H Q → t σ H Q) : PE X e t' := ⟨fun pins s σ H Q I q => h.run pins s σ H Q I (w σ H Q q)⟩
theorem PT.weak {X : Cx} {e : Expr} {t t' : TT} (h : PT X e t) (w : ∀ σ H Q, t' σ H Q → t σ H Q) : PT X e t' := ⟨fun pins s σ H Q I q => h.run pins s σ H Q I (w σ H Q q)⟩
theorem PA.weak {X : Cx} {e : List Expr} {t t' : TA} (h : PA X e t) (w : ∀ σ H Q, t' σ H Q → t σ H Q) : PA X e t' := ⟨fun pos pins s σ H Q I q => h.run pos pins s σ H Q I (w σ H Q q)⟩
theorem PS.weak {X : Cx} {e : Stmt} {t t' : TS} (h : PS X e t) (w : ∀ D σ H, t' D σ H → t D σ H) : PS X e t' := ⟨fun pins s σ H D I q => h.run pins s σ H D I (w D σ H q)⟩
theorem PSs.weak {X : Cx} {e : List Stmt} {t t' : TS} (h : PSs X e t) (w : ∀ D σ H, t' D σ H → t D σ H) : PSs X e t' := ⟨fun pins s σ H D I q => h.run pins s σ H D I (w D σ H q)⟩

section
variable {b : Addr × Addr} {He H0e H0 H H' H0' : Hp} {σ : L2.St} {ρ : Env} {B B' : Bag}
theorem SR.ownH (s : SR b He H0e σ ρ B H0 H) {i : Nat} {d : PyData} {p : Addr} (h1 : ρ[i]? = some (some (.ow d))) (h2 : σ[i]? = some (some (.ref p))) : (∃ o, H p = some o) ∧ H0 p = none ∧ p ≠ b.1 := by
  obtain ⟨v, hv, p', vs, ds, rfl, hb, _, h3, _, h4, _⟩ := s.slot i _ h1
  rw [h2] at hv; cases hv
  exact ⟨⟨_, h4⟩, h3, hb⟩
/-- the heaps grow -/
theorem SR.more (s : SR b He H0e σ ρ B H0 H) (g : Gr b H H0 H' H0') (hr : HR b B' H0' H') : SR b He H0e σ ρ B' H0' H' := by
  refine ⟨hr, s.gr.trans g, s.len, fun i e he => ?_, s.own⟩
  obtain ⟨v, hv, r⟩ := s.slot i e he
  refine ⟨v, hv, ?_⟩
  cases e with
  | sh d => exact Dn.mono g.l0 d v r
  | bg => exact r
  | ow d =>
    obtain ⟨p, vs, ds, rfl, hb, h1, h2, h3, h4, h5⟩ := r
    exact ⟨p, vs, ds, rfl, hb, h1, g.n0 p _ h4 h2, h3, g.kp p _ hb h4, DnAll.mono g.l0 ds vs h5⟩
theorem SR.notb (s : SR b He H0e σ ρ B H0 H) {p : Addr} (n : H p = none) : p ≠ b.1 := by
  intro e; obtain ⟨h, _⟩ := s.hr.bag; rw [e] at n; rw [n] at h; cases h
/-- a new object becomes shared -/
theorem SR.share (s : SR b He H0e σ ρ B H0 H) {p : Addr} {o : HO} (n : H p = none) : Gr b H H0 (upd H p o) (upd H0 p o) ∧ SR b He H0e σ ρ B (upd H0 p o) (upd H p o) := by
  have n0 : H0 p = none := s.hr.le.none n
  have nb : p ≠ b.1 := s.notb n
  have g : Gr b H H0 (upd H p o) (upd H0 p o) := Gr.share s.hr.fb nb n n0
  refine ⟨g, s.more g ⟨s.hr.le.upd, g.fb, ?_, s.hr.ok⟩⟩
  obtain ⟨h1, h2⟩ := s.hr.bag
  exact ⟨by rw [upd_ne nb.symm]; exact h1, Le.new n0 _ _ h2⟩
/-- a new object, not shared -/
theorem SR.fresh (s : SR b He H0e σ ρ B H0 H) {p : Addr} {o : HO} (n : H p = none) : Gr b H H0 (upd H p o) H0 ∧ SR b He H0e σ ρ B H0 (upd H p o) := by
  have nb : p ≠ b.1 := s.notb n
  have g : Gr b H H0 (upd H p o) H0 := Gr.fresh s.hr.fb n
  refine ⟨g, s.more g ⟨s.hr.le.trans (Le.new n), s.hr.fb, ?_, s.hr.ok⟩⟩
  obtain ⟨h1, h2⟩ := s.hr.bag
  exact ⟨by rw [upd_ne nb.symm]; exact h1, h2⟩
/-- a new list that an expression has made (it stood not at H) becomes shared -/
theorem SR.frz (s : SR b He H0e σ ρ B H0 H) {B1 : Bag} {H1 H01 : Hp} (g : Gr b H H0 H1 H01) (s1 : SR b He H0e σ ρ B1 H01 H1) {p : Addr} {vs : List V} (nb : p ≠ b.1) (n : H p = none) (h : H1 p = some (.lst vs)) (n0 : H01 p = none) :
    Gr b H H0 H1 (upd H01 p (.lst vs)) ∧ SR b He H0e σ ρ B1 (upd H01 p (.lst vs)) H1 := by
  have g1 : Gr b H H0 H1 (upd H01 p (.lst vs)) := ⟨g.kp, g.l0.trans (Le.new n0), fun a o e z => by rw [upd_ne (ne_of_none e n)]; exact g.n0 a o e z, by rw [upd_ne nb.symm]; exact g.fb⟩
  refine ⟨g1, s.more g1 ⟨fun a o e => ?_, g1.fb, ?_, s1.hr.ok⟩⟩
  · by_cases ha : a = p
    · subst ha; rw [upd_same] at e; cases e; exact h
    · rw [upd_ne ha] at e; exact s1.hr.le a o e
  · obtain ⟨h1, h2⟩ := s1.hr.bag
    exact ⟨h1, Le.new n0 _ _ h2⟩
end
/-- the data of an expression's value -/
def EV.data : EV → Option PyData
  | .sh d => some d
  | .ow d => some d
  | .bg => none
theorem SR.data {b : Addr × Addr} {He H0e H0 H : Hp} {σ : L2.St} {ρ : Env} {B B1 : Bag} {H1 H01 : Hp} {v : V} {e : EV} {d : PyData} (s : SR b He H0e σ ρ B H0 H) (g : Gr b H H0 H1 H01) (s1 : SR b He H0e σ ρ B1 H01 H1) (r : VR b H H01 H1 v e) (hd : e.data = some d) :
    ∃ H02, Gr b H H0 H1 H02 ∧ SR b He H0e σ ρ B1 H02 H1 ∧ Dn H02 v d := by
  cases e with
  | bg => cases hd
  | sh d' => cases hd; exact ⟨H01, g, s1, r⟩
  | ow d' =>
    cases hd
    obtain ⟨p, vs, ds, rfl, hb, h1, h2, rfl, h4, h5⟩ := r
    obtain ⟨g1, s2⟩ := s.frz g s1 hb h1 h4 h2
    exact ⟨_, g1, s2, .lst upd_same (DnAll.mono (Le.new h2) _ _ h5)⟩
end Mr
namespace Mr
open PySem PySem.Spec PyProof.Rows L2

def Out.bind {α β : Type} (o : Out α) (f : α → Bag → Out β) : Out β := match o with
  | .ok a B => f a B
  | .bad => .bad
@[simp] theorem bind_ok {α β : Type} (a : α) (B : Bag) (f : α → Bag → Out β) : (Out.ok a B).bind f = f a B := rfl
@[simp] theorem bind_bad {α β : Type} (f : α → Bag → Out β) : (Out.bad : Out α).bind f = .bad := rfl
def liftO (o : Option EV) (B : Bag) : Out EV := match o with
  | some e => .ok e B
  | none => .bad
@[simp] theorem liftO_some (e : EV) (B : Bag) : liftO (some e) B = .ok e B := rfl
@[simp] theorem liftO_none (B : Bag) : liftO none B = .bad := rfl

def eVar (i : Nat) : EM := fun ρ B => match ρ[i]? with
  | some (some (.sh d)) => .ok (.sh d) B
  | some (some .bg) => .ok .bg B
  | _ => .bad
def eC (d : PyData) : EM := fun _ B => .ok (.sh d) B
def eBin (g : PyData → PyData → Option EV) (m1 m2 : EM) : EM := fun ρ B => (m1 ρ B).bind fun e1 B1 => (m2 ρ B1).bind fun e2 B2 => liftO (e1.data.bind fun d1 => e2.data.bind fun d2 => g d1 d2) B2
def eUn (g : PyData → Option EV) (m1 : EM) : EM := fun ρ B => (m1 ρ B).bind fun e1 B1 => liftO (e1.data.bind g) B1
def eIf (c : TM) (m1 m2 : EM) : EM := fun ρ B => (c ρ B).bind fun k B1 => if k then m1 ρ B1 else m2 ρ B1
def boolOf : EV → Option Bool
  | .sh (.bool k) => some k
  | _ => none
def eAnd (m1 m2 : EM) : EM := fun ρ B => (m1 ρ B).bind fun e B1 => match boolOf e with
  | some k => if k then m2 ρ B1 else .ok (.sh (.bool false)) B1
  | none => .bad
def eOr (m1 m2 : EM) : EM := fun ρ B => (m1 ρ B).bind fun e B1 => match boolOf e with
  | some k => if k then .ok (.sh (.bool true)) B1 else m2 ρ B1
  | none => .bad
def eNot (m1 : EM) : EM := fun ρ B => (m1 ρ B).bind fun e B1 => match boolOf e with
  | some k => .ok (.sh (.bool (!k))) B1
  | none => .bad
def tAndM (m1 m2 : TM) : TM := fun ρ B => (m1 ρ B).bind fun k B1 => if k then m2 ρ B1 else .ok false B1
def tOrM (m1 m2 : TM) : TM := fun ρ B => (m1 ρ B).bind fun k B1 => if k then .ok true B1 else m2 ρ B1
def tNotM (m1 : TM) : TM := fun ρ B => (m1 ρ B).bind fun k B1 => .ok (!k) B1
def truD : PyData → Option Bool
  | .none => some false
  | .bool b => some b
  | .int i => some (i != 0)
  | .str y => if y.length ≤ sizeLine then some ((y.length : Int) != 0) else none
  | .list xs => some (!xs.isEmpty)
  | .tuple xs => some (!xs.isEmpty)
  | .dict xs => some (!xs.isEmpty)
def tVal (m : EM) : TM := fun ρ B => (m ρ B).bind fun e B1 => match e.data.bind truD with
  | some k => .ok k B1
  | none => .bad
def tBool (m : EM) : TM := fun ρ B => (m ρ B).bind fun e B1 => match boolOf e with
  | some k => .ok k B1
  | none => .bad
def EV.share : EV → EV
  | .sh d => .sh d
  | .ow d => .sh d
  | .bg => .bg
def aNil : AM := fun _ B => .ok [] B
def aCons (m : EM) (ms : AM) : AM := fun ρ B => (m ρ B).bind fun e B1 => (ms ρ B1).bind fun es B2 => .ok (e.share :: es) B2
def dataAll : List EV → Option (List PyData)
  | [] => some []
  | .sh d :: r => (dataAll r).map (d :: ·)
  | _ :: _ => none
def eTup (ms : AM) : EM := fun ρ B => (ms ρ B).bind fun es B1 => match dataAll es with
  | some ds => if ds.length ≤ sizeLine then .ok (.sh (.tuple ds)) B1 else .bad
  | none => .bad
def eLst (ms : AM) : EM := fun ρ B => (ms ρ B).bind fun es B1 => match dataAll es with
  | some ds => if ds.length ≤ sizeLine then .ok (.ow (.list ds)) B1 else .bad
  | none => .bad
abbrev FM := List EV → Bag → Out EV
def eCall (n : Nat) (mf : FM) (ms : AM) : EM := fun ρ B => (ms ρ B).bind fun es B1 => if es.length = n then mf es B1 else .bad
/-- a built-in, or a method, of data -/
def eCB (g : List PyData → Option EV) (ms : AM) : EM := fun ρ B => (ms ρ B).bind fun es B1 => liftO ((dataAll es).bind g) B1

/-- what a plain operation hands back -/
def NewRes (H0 H : Hp) (z : V) (H' : Hp) : EV → Prop
  | .sh d => (H' = H ∧ Dn H0 z d) ∨ ∃ p vs ds, d = .tuple ds ∧ z = .ref p ∧ H p = none ∧ H' = upd H p (.tup vs) ∧ DnAll H0 vs ds
  | .ow d => ∃ p vs ds, d = .list ds ∧ z = .ref p ∧ H p = none ∧ H' = upd H p (.lst vs) ∧ DnAll H0 vs ds
  | .bg => False
section
variable {b : Addr × Addr} {He H0e H0 H H' H0' : Hp} {σ : L2.St} {ρ : Env} {B B' : Bag}
theorem NewRes.ok {z : V} {e : EV} (s : SR b He H0e σ ρ B H0 H) (n : NewRes H0 H z H' e) : ∃ H0', Gr b H H0 H' H0' ∧ SR b He H0e σ ρ B H0' H' ∧ VR b H H0' H' z e := by
  cases e with
  | bg => exact n.elim
  | sh d =>
    rcases n with ⟨rfl, h⟩ | ⟨p, vs, ds, rfl, rfl, hp, rfl, h⟩
    · exact ⟨H0, Gr.refl s.hr.fb, s, h⟩
    · have n0 : H0 p = none := s.hr.le.none hp
      obtain ⟨g, s1⟩ := s.share (o := .tup vs) hp
      exact ⟨upd H0 p (.tup vs), g, s1, .tup upd_same (DnAll.mono (Le.new n0) _ _ h)⟩
  | ow d =>
    obtain ⟨p, vs, ds, rfl, rfl, hp, rfl, h⟩ := n
    have n0 : H0 p = none := s.hr.le.none hp
    obtain ⟨g, s1⟩ := s.fresh (o := .lst vs) hp
    exact ⟨H0, g, s1, p, vs, ds, rfl, s.notb hp, hp, n0, rfl, upd_same, h⟩
theorem VR.back {H1 H01 : Hp} {v : V} {e : EV} (k : Gr b H H0 H1 H01) (r : VR b H1 H0' H' v e) : VR b H H0' H' v e := by
  cases e with
  | bg => exact r
  | sh d => exact r
  | ow d =>
    obtain ⟨p, vs, ds, rfl, hb, h1, h2⟩ := r
    exact ⟨p, vs, ds, rfl, hb, k.kp.none hb h1, h2⟩
end
theorem VRs.mono {b : Addr × Addr} {H0 H0' : Hp} (l : Le H0 H0') {vs : List V} {es : List EV} (h : VRs b H0 vs es) : VRs b H0' vs es := by
  induction h with
  | nil => exact .nil
  | sh a _ ih => exact .sh (Dn.mono l _ _ a) ih
  | bg _ ih => exact .bg ih
theorem VRs.length {b : Addr × Addr} {H0 : Hp} {vs : List V} {es : List EV} (h : VRs b H0 vs es) : vs.length = es.length := by
  induction h with
  | nil => rfl
  | sh a _ ih => simp [ih]
  | bg _ ih => simp [ih]
theorem VRs.all {b : Addr × Addr} {H0 : Hp} {vs : List V} {es : List EV} (h : VRs b H0 vs es) : ∀ {ds : List PyData}, dataAll es = some ds → DnAll H0 vs ds := by
  induction h with
  | nil => intro ds e; cases e; exact .nil
  | sh a _ ih =>
    intro ds e
    rename_i v d vs es _
    cases q : dataAll es with
    | none => simp [dataAll, q] at e
    | some r => simp [dataAll, q] at e; subst e; exact .cons a (ih q)
  | bg _ ih => intro ds e; cases e

section
variable {X : Cx} {a c e : Expr} {es : List Expr} {m m1 m2 : EM} {pos : Pos}
/-- the step of an expression's reading -/
theorem rdE_at {b : Addr × Addr} {He H0e H0 H : Hp} {σ : L2.St} {ρ : Env} {B : Bag} {Q : VK} (s : SR b He H0e σ ρ B H0 H) {e : EV} {B' : Bag} (h : m ρ B = .ok e B')
    (q : ∀ v H0' H', Gr b H H0 H' H0' → SR b He H0e σ ρ B' H0' H' → VR b H H0' H' v e → Q v H') : rdE m σ H Q := ⟨b, He, H0e, ρ, B, H0, s, by rw [h]; exact q⟩
theorem rdT_at {m : TM} {b : Addr × Addr} {He H0e H0 H : Hp} {σ : L2.St} {ρ : Env} {B : Bag} {Q : Bool → Hp → Prop} (s : SR b He H0e σ ρ B H0 H) {e : Bool} {B' : Bag} (h : m ρ B = .ok e B')
    (q : ∀ H0' H', Gr b H H0 H' H0' → SR b He H0e σ ρ B' H0' H' → Q e H') : rdT m σ H Q := ⟨b, He, H0e, ρ, B, H0, s, by rw [h]; exact q⟩
theorem rdA_at {m : AM} {b : Addr × Addr} {He H0e H0 H : Hp} {σ : L2.St} {ρ : Env} {B : Bag} {Q : List V → Hp → Prop} (s : SR b He H0e σ ρ B H0 H) {e : List EV} {B' : Bag} (h : m ρ B = .ok e B')
    (q : ∀ v H0' H', Gr b H H0 H' H0' → SR b He H0e σ ρ B' H0' H' → VRs b H0' v e → Q v H') : rdA m σ H Q := ⟨b, He, H0e, ρ, B, H0, s, by rw [h]; exact q⟩

theorem me_var (i : Nat) {x : Str} (h : PE X (.Name x pos) (tVar i)) : ME X (.Name x pos) (eVar i) := PE.weak h fun σ H Q ⟨b, He, H0e, ρ, B, H0, s, q⟩ => by
  unfold eVar at q
  cases hr : ρ[i]? with
  | none => rw [hr] at q; exact q.elim
  | some o =>
    rw [hr] at q
    cases o with
    | none => exact q.elim
    | some e =>
      obtain ⟨v, hv, r⟩ := s.slot i e hr
      cases e with
      | sh d => exact ⟨v, hv, q v H0 H (Gr.refl s.hr.fb) s r⟩
      | bg => exact ⟨v, hv, q v H0 H (Gr.refl s.hr.fb) s r⟩
      | ow d => exact q.elim
theorem me_c {v : V} {d : PyData} (hd : ∀ H, Dn H v d) (h : PE X e (tC v)) : ME X e (eC d) := PE.weak h fun σ H Q ⟨b, He, H0e, ρ, B, H0, s, q⟩ => q v H0 H (Gr.refl s.hr.fb) s (hd H0)
theorem me_int {i : Int} {j} : ME X (.Constant (.int i) j pos) (eC (.int i)) := me_c (fun _ => .int i) pe_int
theorem me_bl {i : Bool} {j} : ME X (.Constant (.bool i) j pos) (eC (.bool i)) := me_c (fun _ => .bl i) pe_bl
theorem me_non {j} : ME X (.Constant .none j pos) (eC .none) := me_c (fun _ => .non) pe_non
theorem me_str {x : Str} {j} : ME X (.Constant (.str x) j pos) (eC (.str x)) := me_c (fun _ => .str x) pe_str

def rD2 (g : PyData → PyData → Option EV) : R2 := fun x y H Q => ∃ H0 d1 d2 e, Le H0 H ∧ Dn H0 x d1 ∧ Dn H0 y d2 ∧ g d1 d2 = some e ∧ ∀ z H', NewRes H0 H z H' e → Q z H'
def rD1 (g : PyData → Option EV) : V → Hp → VK → Prop := fun x H Q => ∃ H0 d1 e, Le H0 H ∧ Dn H0 x d1 ∧ g d1 = some e ∧ ∀ z H', NewRes H0 H z H' e → Q z H'
def rDA (g : List PyData → Option EV) : List V → Hp → VK → Prop := fun xs H Q => ∃ H0 ds e, Le H0 H ∧ DnAll H0 xs ds ∧ g ds = some e ∧ ∀ z H', NewRes H0 H z H' e → Q z H'

theorem bin_rd {g : PyData → PyData → Option EV} {σ : L2.St} {H : Hp} {Q : VK} (h : rdE (eBin g m1 m2) σ H Q) : tOp (rD2 g) (rdE m1) (rdE m2) σ H Q := by
  obtain ⟨b, He, H0e, ρ, B, H0, s, q⟩ := h
  unfold eBin at q
  cases h1 : m1 ρ B with
  | bad => rw [h1] at q; exact q.elim
  | ok e1 B1 =>
    rw [h1, bind_ok] at q
    refine rdE_at s h1 fun v H01 H1 g1 s1 r1 => ?_
    cases h2 : m2 ρ B1 with
    | bad => rw [h2] at q; exact q.elim
    | ok e2 B2 =>
      rw [h2, bind_ok] at q
      cases hd1 : e1.data with
      | none => rw [hd1] at q; exact q.elim
      | some d1 =>
        obtain ⟨H02, g2, s2, D1⟩ := s.data g1 s1 r1 hd1
        refine rdE_at s2 h2 fun y H03 H3 g3 s3 r3 => ?_
        cases hd2 : e2.data with
        | none => rw [hd1, hd2] at q; exact q.elim
        | some d2 =>
          obtain ⟨H04, g4, s4, D2⟩ := s2.data g3 s3 r3 hd2
          rw [hd1, hd2] at q
          cases hg : g d1 d2 with
          | none => simp [hg] at q
          | some e =>
            simp [hg] at q
            refine ⟨H04, d1, d2, e, s4.hr.le, Dn.mono g4.l0 _ _ D1, D2, hg, fun z H5 n => ?_⟩
            obtain ⟨H05, g5, s5, r5⟩ := n.ok s4
            exact q z H05 H5 ((g2.trans g4).trans g5) s5 (r5.back (g2.trans g4))
theorem me_op {op : Operator} {g : PyData → PyData → Option EV} (ho : OpR X (binaryOp op) (rD2 g)) (ha : ME X a m1) (hb : ME X c m2) : ME X (.BinOp a op c pos) (eBin g m1 m2) := PE.weak (pe_op ho ha hb) fun _ _ _ => bin_rd
theorem me_cmp {op : CmpOp} {g : PyData → PyData → Option EV} (ho : OpR X (compareOp op) (rD2 g)) (ha : ME X a m1) (hb : ME X c m2) (hm : behindInMarks op c = false) : ME X (.Compare a [op] [c] pos) (eBin g m1 m2) := PE.weak (pe_cmpR ho ha hb hm) fun _ _ _ => bin_rd
theorem bool_rd {m : EM} {σ : L2.St} {H : Hp} {Q : Bool → Hp → Prop} (h : rdT (tBool m) σ H Q) : rdE m σ H fun x H' => ∃ k, x = .bl k ∧ Q k H' := by
  obtain ⟨b, He, H0e, ρ, B, H0, s, q⟩ := h
  unfold tBool at q
  cases h1 : m ρ B with
  | bad => rw [h1] at q; exact q.elim
  | ok e1 B1 =>
    rw [h1, bind_ok] at q
    refine rdE_at s h1 fun v H01 H1 g1 s1 r1 => ?_
    cases e1 with
    | ow d => exact q.elim
    | bg => exact q.elim
    | sh d =>
      cases d with
      | bool k => exact ⟨k, Dn.bl_inv r1, q H01 H1 g1 s1⟩
      | _ => exact q.elim
theorem mt_cmp {op : CmpOp} {g : PyData → PyData → Option EV} (ho : OpR X (compareOp op) (rD2 g)) (ha : ME X a m1) (hb : ME X c m2) (hm : behindInMarks op c = false) : MT X (.Compare a [op] [c] pos) (tBool (eBin g m1 m2)) :=
  PT.weak (pt_cmpR ho ha hb hm) fun σ H Q h => bin_rd (bool_rd h |> fun z => z)
end
end Mr
namespace Mr
open PySem PySem.Spec PyProof.Rows L2
section
variable {X : Cx} {a c e : Expr} {es : List Expr} {m m1 m2 : EM} {pos : Pos}
/-! ### operators of one argument, choices, truths -/
theorem me_un {op : UnaryOp} {g : PyData → Option EV} (ho : UnR X (unaryOp op) (rD1 g)) (ha : ME X a m1) : ME X (.UnaryOp op a pos) (eUn g m1) := PE.weak (pe_un ho ha) fun σ H Q ⟨b, He, H0e, ρ, B, H0, s, q⟩ => by
  unfold eUn at q
  cases h1 : m1 ρ B with
  | bad => rw [h1] at q; exact q.elim
  | ok e1 B1 =>
    rw [h1, bind_ok] at q
    refine rdE_at s h1 fun v H01 H1 g1 s1 r1 => ?_
    cases hd1 : e1.data with
    | none => rw [hd1] at q; exact q.elim
    | some d1 =>
      obtain ⟨H02, g2, s2, D1⟩ := s.data g1 s1 r1 hd1
      rw [hd1] at q
      cases hg : g d1 with
      | none => simp [hg] at q
      | some e =>
        simp [hg] at q
        refine ⟨H02, d1, e, s2.hr.le, D1, hg, fun z H5 n => ?_⟩
        obtain ⟨H05, g5, s5, r5⟩ := n.ok s2
        exact q z H05 H5 (g2.trans g5) s5 (r5.back g2)
theorem if_rd {tc : TM} {σ : L2.St} {H : Hp} {Q : VK} (h : rdE (eIf tc m1 m2) σ H Q) : tIf (rdT tc) (rdE m1) (rdE m2) σ H Q := by
  obtain ⟨b, He, H0e, ρ, B, H0, s, q⟩ := h
  unfold eIf at q
  cases h1 : tc ρ B with
  | bad => rw [h1] at q; exact q.elim
  | ok k B1 =>
    rw [h1, bind_ok] at q
    refine rdT_at s h1 fun H01 H1 g1 s1 => ?_
    cases k with
    | true =>
      refine ⟨b, He, H0e, ρ, B1, H01, s1, ?_⟩
      rw [if_pos rfl] at q
      cases h2 : m1 ρ B1 with
      | bad => rw [h2] at q; exact q.elim
      | ok e2 B2 => rw [h2] at q; exact fun v H02 H2 g2 s2 r2 => q v H02 H2 (g1.trans g2) s2 (r2.back g1)
    | false =>
      refine ⟨b, He, H0e, ρ, B1, H01, s1, ?_⟩
      rw [if_neg Bool.false_ne_true] at q
      cases h2 : m2 ρ B1 with
      | bad => rw [h2] at q; exact q.elim
      | ok e2 B2 => rw [h2] at q; exact fun v H02 H2 g2 s2 r2 => q v H02 H2 (g1.trans g2) s2 (r2.back g1)
theorem me_if {tc : TM} (hc : MT X e tc) (ha : ME X a m1) (hb : ME X c m2) : ME X (.IfExp e a c pos) (eIf tc m1 m2) := PE.weak (pe_ifExp hc ha hb) fun _ _ _ => if_rd
theorem bool_inv {b : Addr × Addr} {H H0 H' : Hp} {v : V} {e : EV} {k : Bool} (r : VR b H H0 H' v e) (h : boolOf e = some k) : v = .bl k := by
  cases e with
  | ow d => cases h
  | bg => cases h
  | sh d =>
    cases d with
    | bool k' => cases h; exact Dn.bl_inv r
    | _ => cases h
theorem me_and {rest : List Expr} (ha : ME X a m1) (hb : ME X (.BoolOp .And (c :: rest) pos) m2) : ME X (.BoolOp .And (a :: c :: rest) pos) (eAnd m1 m2) := PE.weak (pe_and ha hb) fun σ H Q ⟨b, He, H0e, ρ, B, H0, s, q⟩ => by
  unfold eAnd at q
  cases h1 : m1 ρ B with
  | bad => rw [h1] at q; exact q.elim
  | ok e1 B1 =>
    rw [h1, bind_ok] at q
    refine rdE_at s h1 fun v H01 H1 g1 s1 r1 => ?_
    cases hk : boolOf e1 with
    | none => rw [hk] at q; exact q.elim
    | some k =>
      rw [hk] at q
      refine ⟨k, bool_inv r1 hk, ?_⟩
      cases k with
      | false => exact q _ H01 H1 g1 s1 (.bl false)
      | true =>
        show rdE m2 σ H1 Q
        refine ⟨b, He, H0e, ρ, B1, H01, s1, ?_⟩
        simp only [if_true] at q
        cases h2 : m2 ρ B1 with
        | bad => rw [h2] at q; exact q.elim
        | ok e2 B2 => rw [h2] at q; exact fun v H02 H2 g2 s2 r2 => q v H02 H2 (g1.trans g2) s2 (r2.back g1)
theorem me_or {rest : List Expr} (ha : ME X a m1) (hb : ME X (.BoolOp .Or (c :: rest) pos) m2) : ME X (.BoolOp .Or (a :: c :: rest) pos) (eOr m1 m2) := PE.weak (pe_or ha hb) fun σ H Q ⟨b, He, H0e, ρ, B, H0, s, q⟩ => by
  unfold eOr at q
  cases h1 : m1 ρ B with
  | bad => rw [h1] at q; exact q.elim
  | ok e1 B1 =>
    rw [h1, bind_ok] at q
    refine rdE_at s h1 fun v H01 H1 g1 s1 r1 => ?_
    cases hk : boolOf e1 with
    | none => rw [hk] at q; exact q.elim
    | some k =>
      rw [hk] at q
      refine ⟨k, bool_inv r1 hk, ?_⟩
      cases k with
      | true => exact q _ H01 H1 g1 s1 (.bl true)
      | false =>
        show rdE m2 σ H1 Q
        refine ⟨b, He, H0e, ρ, B1, H01, s1, ?_⟩
        simp only [Bool.false_eq_true, if_false] at q
        cases h2 : m2 ρ B1 with
        | bad => rw [h2] at q; exact q.elim
        | ok e2 B2 => rw [h2] at q; exact fun v H02 H2 g2 s2 r2 => q v H02 H2 (g1.trans g2) s2 (r2.back g1)
theorem me_one {op} (h : ME X a m) : ME X (.BoolOp op [a] pos) m := pe_one h
theorem me_not (ha : ME X a m1) : ME X (.UnaryOp .Not a pos) (eNot m1) := PE.weak (pe_not ha) fun σ H Q ⟨b, He, H0e, ρ, B, H0, s, q⟩ => by
  unfold eNot at q
  cases h1 : m1 ρ B with
  | bad => rw [h1] at q; exact q.elim
  | ok e1 B1 =>
    rw [h1, bind_ok] at q
    refine rdE_at s h1 fun v H01 H1 g1 s1 r1 => ?_
    cases hk : boolOf e1 with
    | none => rw [hk] at q; exact q.elim
    | some k =>
      rw [hk] at q
      exact ⟨k, bool_inv r1 hk, q _ H01 H1 g1 s1 (.bl _)⟩
theorem mt_not {t : TM} (ha : MT X a t) : MT X (.UnaryOp .Not a pos) (tNotM t) := PT.weak (pt_not ha) fun σ H Q ⟨b, He, H0e, ρ, B, H0, s, q⟩ => by
  unfold tNotM at q
  cases h1 : t ρ B with
  | bad => rw [h1] at q; exact q.elim
  | ok e1 B1 =>
    rw [h1, bind_ok] at q
    exact rdT_at s h1 fun H01 H1 g1 s1 => q H01 H1 g1 s1
abbrev MW (X : Cx) (e : Expr) (m : TM) : Prop := PW X e (rdT m)
theorem PW.weak {t t' : TT} (h : PW X e t) (w : ∀ σ H Q, t' σ H Q → t σ H Q) : PW X e t' := ⟨fun whole pins s σ H Q I q => h.run whole pins s σ H Q I (w σ H Q q)⟩
theorem mw_and1 {t : TM} (ha : MT X a t) : MW X (.BoolOp .And [a] pos) t := pw_and1 ha
theorem mw_or1 {t : TM} (ha : MT X a t) : MW X (.BoolOp .Or [a] pos) t := pw_or1 ha
theorem mw_and {t u : TM} {rest : List Expr} (ha : MT X a t) (hb : MW X (.BoolOp .And (c :: rest) pos) u) : MW X (.BoolOp .And (a :: c :: rest) pos) (tAndM t u) := PW.weak (pw_and ha hb) fun σ H Q ⟨b, He, H0e, ρ, B, H0, s, q⟩ => by
  unfold tAndM at q
  cases h1 : t ρ B with
  | bad => rw [h1] at q; exact q.elim
  | ok k B1 =>
    rw [h1, bind_ok] at q
    refine rdT_at s h1 fun H01 H1 g1 s1 => ?_
    cases k with
    | false => exact q H01 H1 g1 s1
    | true =>
      show rdT u σ H1 Q
      refine ⟨b, He, H0e, ρ, B1, H01, s1, ?_⟩
      simp only [if_true] at q
      cases h2 : u ρ B1 with
      | bad => rw [h2] at q; exact q.elim
      | ok e2 B2 => rw [h2] at q; exact fun H02 H2 g2 s2 => q H02 H2 (g1.trans g2) s2
theorem mw_or {t u : TM} {rest : List Expr} (ha : MT X a t) (hb : MW X (.BoolOp .Or (c :: rest) pos) u) : MW X (.BoolOp .Or (a :: c :: rest) pos) (tOrM t u) := PW.weak (pw_or ha hb) fun σ H Q ⟨b, He, H0e, ρ, B, H0, s, q⟩ => by
  unfold tOrM at q
  cases h1 : t ρ B with
  | bad => rw [h1] at q; exact q.elim
  | ok k B1 =>
    rw [h1, bind_ok] at q
    refine rdT_at s h1 fun H01 H1 g1 s1 => ?_
    cases k with
    | true => exact q H01 H1 g1 s1
    | false =>
      show rdT u σ H1 Q
      refine ⟨b, He, H0e, ρ, B1, H01, s1, ?_⟩
      simp only [Bool.false_eq_true, if_false] at q
      cases h2 : u ρ B1 with
      | bad => rw [h2] at q; exact q.elim
      | ok e2 B2 => rw [h2] at q; exact fun H02 H2 g2 s2 => q H02 H2 (g1.trans g2) s2
theorem mt_w {t : TM} (h : MW X a t) : MT X a t := h.pt
theorem truD_ok {K : PySem.W.Frag} {H0 H : Hp} {v : V} {d : PyData} {k : Bool} (l : Le H0 H) (r : Dn H0 v d) (h : truD d = some k) : TruV K v H k := by
  cases d with
  | none => cases r; cases h; rfl
  | bool b => cases r; cases h; rfl
  | int i => cases r; cases h; rfl
  | str y =>
    cases r
    simp only [truD] at h
    split at h
    · cases h; exact ⟨by assumption, rfl⟩
    · cases h
  | list xs =>
    cases h
    obtain ⟨a, ys, rfl, e, al⟩ := r.lst_inv
    refine .inl ⟨ys, .inl (.inl (l _ _ e)), ?_⟩
    have := al.length
    cases ys <;> cases xs <;> simp_all
  | tuple xs =>
    cases h
    obtain ⟨a, ys, rfl, e, al⟩ := r.tup_inv
    refine .inr (.inl ⟨ys, .inl (.inl (l _ _ e)), ?_⟩)
    have := al.length
    cases ys <;> cases xs <;> simp_all
  | dict xs =>
    cases h
    cases r with
    | dct e al =>
      refine .inr (.inr ⟨_, l _ _ e, ?_⟩)
      cases al <;> rfl
theorem mt_val (h : ME X a m) (he : ∀ whole, isTrue a X.env whole = (do let v ← whole; standAt a.pos; holding [v] (truthy v)) := by intro _; rfl) : MT X a (tVal m) := PT.weak (pt_truth h he) fun σ H Q ⟨b, He, H0e, ρ, B, H0, s, q⟩ => by
  unfold tVal at q
  cases h1 : m ρ B with
  | bad => rw [h1] at q; exact q.elim
  | ok e1 B1 =>
    rw [h1, bind_ok] at q
    refine rdE_at s h1 fun v H01 H1 g1 s1 r1 => ?_
    cases hd1 : e1.data with
    | none => rw [hd1] at q; exact q.elim
    | some d1 =>
      obtain ⟨H02, g2, s2, D1⟩ := s.data g1 s1 r1 hd1
      rw [hd1] at q
      cases hg : truD d1 with
      | none => simp [hg] at q
      | some k =>
        simp [hg] at q
        exact ⟨k, truD_ok s2.hr.le D1 hg, q H02 H1 g2 s2⟩
/-! ### arguments, displays, calls -/
theorem ma_nil : MA X [] aNil := PA.weak pa_nil fun σ H Q ⟨b, He, H0e, ρ, B, H0, s, q⟩ => q [] H0 H (Gr.refl s.hr.fb) s .nil
theorem ma_cons {ms : AM} (ha : ME X e m) (hr : MA X es ms) (hs : starEach (e :: es) X.env = (false, eval e X.env) :: starEach es X.env := by rfl) : MA X (e :: es) (aCons m ms) := PA.weak (pa_cons ha hr hs) fun σ H Q ⟨b, He, H0e, ρ, B, H0, s, q⟩ => by
  unfold aCons at q
  cases h1 : m ρ B with
  | bad => rw [h1] at q; exact q.elim
  | ok e1 B1 =>
    rw [h1, bind_ok] at q
    refine rdE_at s h1 fun v H01 H1 g1 s1 r1 => ?_
    cases h2 : ms ρ B1 with
    | bad => rw [h2] at q; exact q.elim
    | ok es2 B2 =>
      rw [h2, bind_ok] at q
      cases hd1 : e1.data with
      | none =>
        refine rdA_at s1 h2 fun vs H03 H3 g3 s3 r3 => ?_
        cases e1 with
        | sh d => cases hd1
        | ow d => cases hd1
        | bg =>
          have : v = .ref b.1 := r1
          subst this
          exact q _ H03 H3 (g1.trans g3) s3 (.bg r3)
      | some d1 =>
        obtain ⟨H02, g2, s2, D1⟩ := s.data g1 s1 r1 hd1
        refine rdA_at s2 h2 fun vs H03 H3 g3 s3 r3 => ?_
        have : e1.share = .sh d1 := by cases e1 <;> cases hd1 <;> rfl
        rw [this] at q
        exact q _ H03 H3 (g2.trans g3) s3 (.sh (Dn.mono g3.l0 _ _ D1) r3)
theorem me_tup {ms : AM} {x1} (h : MA X es ms) : ME X (.Tuple es x1 pos) (eTup ms) := PE.weak (pe_tup h) fun σ H Q ⟨b, He, H0e, ρ, B, H0, s, q⟩ => by
  unfold eTup at q
  cases h1 : ms ρ B with
  | bad => rw [h1] at q; exact q.elim
  | ok es1 B1 =>
    rw [h1, bind_ok] at q
    refine rdA_at s h1 fun vs H01 H1 g1 s1 r1 => ?_
    cases hd : dataAll es1 with
    | none => rw [hd] at q; exact q.elim
    | some ds =>
      rw [hd] at q
      have ra := r1.all hd
      by_cases hl : ds.length ≤ sizeLine
      · simp only [if_pos hl] at q
        refine ⟨by rw [ra.length]; exact hl, fun p hp => ?_⟩
        obtain ⟨H05, g5, s5, r5⟩ := NewRes.ok (z := .ref p) (e := .sh (.tuple ds)) (H' := upd H1 p (.tup vs)) s1 (.inr ⟨p, vs, ds, rfl, rfl, hp, rfl, ra⟩)
        exact q _ H05 _ (g1.trans g5) s5 (r5.back g1)
      · simp only [if_neg hl] at q
theorem me_lst {ms : AM} (h : MA X es ms) : ME X (.List es pos) (eLst ms) := PE.weak (pe_lst h) fun σ H Q ⟨b, He, H0e, ρ, B, H0, s, q⟩ => by
  unfold eLst at q
  cases h1 : ms ρ B with
  | bad => rw [h1] at q; exact q.elim
  | ok es1 B1 =>
    rw [h1, bind_ok] at q
    refine rdA_at s h1 fun vs H01 H1 g1 s1 r1 => ?_
    cases hd : dataAll es1 with
    | none => rw [hd] at q; exact q.elim
    | some ds =>
      rw [hd] at q
      have ra := r1.all hd
      by_cases hl : ds.length ≤ sizeLine
      · simp only [if_pos hl] at q
        refine ⟨by rw [ra.length]; exact hl, fun p hp => ?_⟩
        obtain ⟨H05, g5, s5, r5⟩ := NewRes.ok (z := .ref p) (e := .ow (.list ds)) (H' := upd H1 p (.lst vs)) s1 ⟨p, vs, ds, rfl, rfl, hp, rfl, ra⟩
        exact q _ H05 _ (g1.trans g5) s5 (r5.back g1)
      · simp only [if_neg hl] at q
/-- a def's promise by its mirror -/
def postF (b : Addr × Addr) (H0 H : Hp) (Q : VK) : Out EV → Prop
  | .ok e B' => ∀ v H0' H', Gr b H H0 H' H0' → HR b B' H0' H' → VR b H H0' H' v e → Q v H'
  | .bad => False
def spM (n : Nat) (mf : FM) : Sp := fun vs H Q _ => ∃ b B H0 es, HR b B H0 H ∧ VRs b H0 vs es ∧ es.length = n ∧ postF b H0 H Q (mf es B)
theorem call_rd {ms : AM} {mf : FM} {n : Nat} {E : XK} {σ : L2.St} {H : Hp} {Q : VK} (h : rdE (eCall n mf ms) σ H Q) : tCall (spM n mf) [] E (rdA ms) σ H Q := by
  obtain ⟨b, He, H0e, ρ, B, H0, s, q⟩ := h
  unfold eCall at q
  cases h1 : ms ρ B with
  | bad => rw [h1] at q; exact q.elim
  | ok es1 B1 =>
    rw [h1, bind_ok] at q
    refine rdA_at s h1 fun vs H01 H1 g1 s1 r1 => ?_
    by_cases hn : es1.length = n
    · simp only [if_pos hn] at q
      show spM n mf (vs ++ []) H1 Q E
      rw [List.append_nil]
      refine ⟨b, B1, H01, es1, s1.hr, r1, hn, ?_⟩
      cases h2 : mf es1 B1 with
      | bad => rw [h2] at q; exact q.elim
      | ok e2 B2 =>
        rw [h2] at q
        intro v H02 H2 g2 hr2 r2
        exact q v H02 H2 (g1.trans g2) (s1.more g2 hr2) (r2.back g1)
    · simp only [if_neg hn] at q
end
end Mr
namespace Mr
open PySem PySem.Spec PyProof.Rows L2

/-! ### defs by their mirrors -/
def mfn (nN : Nat) (ms : SM) : FM := fun es B => match ms (es.map some ++ List.replicate (nN - es.length) none) B with
  | .ok (.rt e) B' => .ok e B'
  | .ok (.nx _) B' => .ok (.sh .none) B'
  | _ => .bad
theorem VRs.get {b : Addr × Addr} {H0 He H : Hp} {vs : List V} {es : List EV} (h : VRs b H0 vs es) : ∀ (i : Nat) (e : EV), es[i]? = some e → (∃ v, vs[i]? = some v ∧ VR b He H0 H v e) ∧ ∀ d, e ≠ .ow d := by
  induction h with
  | nil => intro i e he; simp at he
  | sh a _ ih =>
    intro i e he
    cases i with
    | zero => simp at he; subst he; exact ⟨⟨_, rfl, a⟩, fun d => nofun⟩
    | succ i => simpa using ih i e (by simpa using he)
  | bg _ ih =>
    intro i e he
    cases i with
    | zero => simp at he; subst he; exact ⟨⟨_, rfl, rfl⟩, fun d => nofun⟩
    | succ i => simpa using ih i e (by simpa using he)
theorem SR.start {b : Addr × Addr} {B : Bag} {H0 H : Hp} {N : List Str} {vs : List V} {es : List EV} (hr : HR b B H0 H) (h : VRs b H0 vs es) : SR b H H0 (L2.start N vs) (es.map some ++ List.replicate (N.length - es.length) none) B H0 H := by
  have hl := h.length
  have key : ∀ (i : Nat) e, (es.map some ++ List.replicate (N.length - es.length) none)[i]? = some (some e) → es[i]? = some e := by
    intro i e he
    by_cases hi : i < es.length
    · rw [List.getElem?_append_left (by simpa using hi)] at he
      simp only [List.getElem?_map] at he
      cases q : es[i]? with
      | none => rw [q] at he; cases he
      | some e' => rw [q] at he; cases he; rfl
    · rw [List.getElem?_append_right (by simpa using hi), List.getElem?_replicate] at he
      split at he <;> cases he
  refine ⟨hr, Gr.refl hr.fb, by simp [L2.start, hl], fun i e he => ?_, fun i j d d' _ hi _ => ?_⟩
  · obtain ⟨⟨v, hv, r⟩, _⟩ := h.get (He := H) (H := H) i e (key i e he)
    refine ⟨v, ?_, r⟩
    have hi : i < vs.length := (List.getElem?_eq_some_iff.mp hv).1
    unfold L2.start
    rw [List.getElem?_append_left (by simpa using hi), List.getElem?_map, hv]
    rfl
  · exact absurd rfl ((h.get (He := H) (H := H) i _ (key i _ hi)).2 d)
/-! ### statements -/
def sSkip : SM := fun ρ B => .ok (.nx ρ) B
def sSeq (m1 m2 : SM) : SM := fun ρ B => match m1 ρ B with
  | .ok (.nx ρ1) B1 => m2 ρ1 B1
  | o => o
def sSet (i : Nat) (m : EM) : SM := fun ρ B => (m ρ B).bind fun e B1 => if i < ρ.length then .ok (.nx (ρ.set i (some e))) B1 else .bad
def sUnp (f : PyData → Env → Option Env) (m : EM) : SM := fun ρ B => (m ρ B).bind fun e B1 => match e.data.bind fun d => f d ρ with
  | some ρ1 => .ok (.nx ρ1) B1
  | none => .bad
def sIf (c : TM) (m1 m2 : SM) : SM := fun ρ B => (c ρ B).bind fun k B1 => if k then m1 ρ B1 else m2 ρ B1
def sRet (m : EM) : SM := fun ρ B => (m ρ B).bind fun e B1 => .ok (.rt e) B1
def sExpr (m : EM) : SM := fun ρ B => (m ρ B).bind fun _ B1 => .ok (.nx ρ) B1
def sPar (i j : Nat) (ms : AM) : SM := fun ρ B => (ms ρ B).bind fun es B1 => match es with
  | [e1, e2] => if i < ρ.length ∧ j < ρ.length then .ok (.nx ((ρ.set i (some e1)).set j (some e2))) B1 else .bad
  | _ => .bad
section
variable {b : Addr × Addr} {He H0e H0 H H' H0' : Hp} {σ : L2.St} {ρ : Env} {B B' : Bag}
/-- a slot is set -/
theorem SR.set (s : SR b He H0e σ ρ B H0 H) {i : Nat} {v : V} {e : EV} (hi : i < ρ.length) (r : VR b He H0 H v e) (ne : ∀ d, e = .ow d → ∀ (j : Nat) d', j ≠ i → ρ[j]? = some (some (.ow d')) → σ[j]? ≠ some (some v)) : SR b He H0e (σ.set i (some v)) (ρ.set i (some e)) B H0 H := by
  have hiσ : i < σ.length := by rw [s.len]; exact hi
  refine ⟨s.hr, s.gr, by simp [s.len], fun j e' he => ?_, fun j k d d' hjk hj hk => ?_⟩
  · by_cases h : i = j
    · subst h
      rw [List.getElem?_set_self hi] at he
      cases he
      exact ⟨v, List.getElem?_set_self hiσ, r⟩
    · rw [List.getElem?_set_ne h] at he ⊢
      exact s.slot j e' he
  · by_cases h : i = j
    · subst h
      rw [List.getElem?_set_self hi] at hj
      cases hj
      rw [List.getElem?_set_ne hjk] at hk ⊢
      rw [List.getElem?_set_self hiσ]
      exact fun z => ne d rfl k d' (Ne.symm hjk) hk z.symm
    · by_cases h' : i = k
      · subst h'
        rw [List.getElem?_set_self hi] at hk
        cases hk
        rw [List.getElem?_set_ne h] at hj ⊢
        rw [List.getElem?_set_self hiσ]
        exact ne d' rfl j d (Ne.symm h) hj
      · rw [List.getElem?_set_ne h] at hj
        rw [List.getElem?_set_ne h'] at hk
        rw [List.getElem?_set_ne h, List.getElem?_set_ne h']
        exact s.own j k d d' hjk hj hk
/-- .. by an expression's value -/
theorem SR.setE {B1 : Bag} {H1 H01 : Hp} (s : SR b He H0e σ ρ B H0 H) (g : Gr b H H0 H1 H01) (s1 : SR b He H0e σ ρ B1 H01 H1) {i : Nat} {v : V} {e : EV} (hi : i < ρ.length) (r : VR b H H01 H1 v e) : SR b He H0e (σ.set i (some v)) (ρ.set i (some e)) B1 H01 H1 := by
  refine s1.set hi (r.back s.gr) fun d hd j d' hj ho hz => ?_
  subst hd
  obtain ⟨p, vs, ds, rfl, hb, h1, _⟩ := r
  obtain ⟨⟨o, q⟩, _⟩ := s.ownH ho hz
  rw [h1] at q; cases q
end
section
variable {X : Cx} {a c e : Expr} {es : List Expr} {m m1 m2 : EM} {pos : Pos}
theorem mss_nil : MSs X [] sSkip := PSs.weak pss_nil fun D σ H ⟨b, He, H0e, ρ, B, H0, s, q⟩ => q σ H0 H (Le.refl _) s
theorem seq_rd {m1 m2 : SM} {D : Ends} {σ : L2.St} {H : Hp} (h : rdS (sSeq m1 m2) D σ H) : tSeq (rdS m1) (rdS m2) D σ H := by
  obtain ⟨b, He, H0e, ρ, B, H0, s, q⟩ := h
  refine ⟨b, He, H0e, ρ, B, H0, s, ?_⟩
  unfold sSeq at q
  cases h1 : m1 ρ B with
  | bad => rw [h1] at q; exact q.elim
  | ok fl B1 =>
    rw [h1] at q
    cases fl with
    | nx ρ1 => exact fun σ1 H01 H1 l1 s1 => ⟨b, He, H0e, ρ1, B1, H01, s1, q.mono l1⟩
    | rt e => exact q
    | bk ρ1 => exact q
    | ct ρ1 => exact q
theorem mss_cons {st : Stmt} {rest : List Stmt} {m1 m2 : SM} (h1 : MS X st m1) (h2 : MSs X rest m2) : MSs X (st :: rest) (sSeq m1 m2) := PSs.weak (pss_cons h1 h2) fun _ _ _ => seq_rd
theorem mss_one {st : Stmt} {m1 : SM} (h1 : MS X st m1) : MSs X [st] m1 := pss_one h1
theorem set_rd {i : Nat} {te : TE} {D : Ends} {σ : L2.St} {H : Hp} (ht : ∀ σ H Q, rdE m σ H Q → te σ H Q) (h : rdS (sSet i m) D σ H) : tAsg te (gName i) D σ H := by
  obtain ⟨b, He, H0e, ρ, B, H0, s, q⟩ := h
  unfold sSet at q
  cases h1 : m ρ B with
  | bad => rw [h1] at q; exact q.elim
  | ok e1 B1 =>
    rw [h1, bind_ok] at q
    refine ht _ _ _ (rdE_at s h1 fun v H01 H1 g1 s1 r1 => ?_)
    by_cases hi : i < ρ.length
    · rw [if_pos hi] at q
      exact q _ H01 H1 g1.l0 (s.setE g1 s1 hi r1)
    · rw [if_neg hi] at q; exact q.elim
theorem ms_set {i : Nat} {x : Str} {pos' : Pos} (hN : X.N.Nodup) (hi : X.N[i]? = some x) (hx : Loc X.env.scope x) (he : ME X e m) (hs : swapsWith e (some (.Name x pos')) pos.line X.env = pure false := by rfl) (hf : X.fn x = true ∨ X.env.scope.names.lookup x = some .local := by first | exact .inl rfl | exact .inr rfl | assumption) :
    MS X (.Assign [.Name x pos'] e pos) (sSet i m) := PS.weak (ps_set hN hi hx he hs hf) fun _ _ _ => set_rd fun _ _ _ h => h
theorem ms_if {tc : TM} {p q : List Stmt} {m1 m2 : SM} (hc : MT X c tc) (ha : MSs X p m1) (hb : MSs X q m2) : MS X (.If c p q pos) (sIf tc m1 m2) := PS.weak (ps_if hc ha hb) fun D σ H ⟨b, He, H0e, ρ, B, H0, s, q⟩ => by
  unfold sIf at q
  cases h1 : tc ρ B with
  | bad => rw [h1] at q; exact q.elim
  | ok k B1 =>
    rw [h1, bind_ok] at q
    refine rdT_at s h1 fun H01 H1 g1 s1 => ?_
    cases k with
    | true => exact ⟨b, He, H0e, ρ, B1, H01, s1, q.mono g1.l0⟩
    | false => exact ⟨b, He, H0e, ρ, B1, H01, s1, q.mono g1.l0⟩
theorem ms_ret (he : ME X e m) : MS X (.Return (some e) pos) (sRet m) := PS.weak (ps_ret he) fun D σ H ⟨b, He, H0e, ρ, B, H0, s, q⟩ => by
  unfold sRet at q
  cases h1 : m ρ B with
  | bad => rw [h1] at q; exact q.elim
  | ok e1 B1 =>
    rw [h1, bind_ok] at q
    exact rdE_at s h1 fun v H01 H1 g1 s1 r1 => q v H01 H1 s1.hr s1.gr (r1.back s.gr)
theorem ms_expr (he : ME X e m) (hs : swapsWith e none pos.line X.env = pure false := by rfl) : MS X (.Expr e pos) (sExpr m) := PS.weak (ps_expr he hs) fun D σ H ⟨b, He, H0e, ρ, B, H0, s, q⟩ => by
  unfold sExpr at q
  cases h1 : m ρ B with
  | bad => rw [h1] at q; exact q.elim
  | ok e1 B1 =>
    rw [h1, bind_ok] at q
    exact rdE_at s h1 fun v H01 H1 g1 s1 r1 => q σ H01 H1 g1.l0 s1
/-! ### targets -/
def rdG (is : List Nat) (f : PyData → Env → Option Env) : TG := fun v σ H Q => ∃ b He H0e ρ B H0 d ρ', SR b He H0e σ ρ B H0 H ∧ Dn H0 v d ∧ f d ρ = some ρ' ∧
  ∀ σ', SR b He H0e σ' ρ' B H0 H → σ'.length = σ.length → (∀ i, i ∉ is → σ'[i]? = σ[i]?) → Q σ' H
def rdGs (is : List Nat) (f : List PyData → Env → Option Env) : TGs := fun vs σ H Q => ∃ b He H0e ρ B H0 ds ρ', SR b He H0e σ ρ B H0 H ∧ DnAll H0 vs ds ∧ f ds ρ = some ρ' ∧
  ∀ σ', SR b He H0e σ' ρ' B H0 H → σ'.length = σ.length → (∀ i, i ∉ is → σ'[i]? = σ[i]?) → Q σ' H
abbrev MG (X : Cx) (tg : Expr) (is : List Nat) (f : PyData → Env → Option Env) : Prop := PG X tg (rdG is f)
abbrev MGs (X : Cx) (tg : List Expr) (is : List Nat) (f : List PyData → Env → Option Env) : Prop := PGs X tg (rdGs is f)
theorem PG.weak {tg : Expr} {t t' : TG} (h : PG X tg t) (w : ∀ v σ H Q, t' v σ H Q → t v σ H Q) : PG X tg t' := by
  obtain ⟨h⟩ := h
  constructor
  intros
  apply h <;> first | assumption | (apply w; assumption)
theorem PGs.weak {tg : List Expr} {t t' : TGs} (h : PGs X tg t) (w : ∀ v σ H Q, t' v σ H Q → t v σ H Q) : PGs X tg t' := by
  obtain ⟨h⟩ := h
  constructor
  intros
  apply h <;> first | assumption | (apply w; assumption)
def fName (i : Nat) : PyData → Env → Option Env := fun d ρ => if i < ρ.length then some (ρ.set i (some (.sh d))) else none
def fNil : List PyData → Env → Option Env := fun ds ρ => match ds with
  | [] => some ρ
  | _ => none
def fCons (f : PyData → Env → Option Env) (g : List PyData → Env → Option Env) : List PyData → Env → Option Env := fun ds ρ => match ds with
  | d :: r => (f d ρ).bind (g r)
  | [] => none
def fTup (n : Nat) (g : List PyData → Env → Option Env) : PyData → Env → Option Env := fun d ρ => match d with
  | .tuple ds => if ds.length = n then g ds ρ else none
  | _ => none
theorem mg_name {i : Nat} {x : Str} (hN : X.N.Nodup) (hi : X.N[i]? = some x) (hx : Loc X.env.scope x) (hf : X.fn x = true ∨ X.env.scope.names.lookup x = some .local := by first | exact .inl rfl | exact .inr rfl | assumption) : MG X (.Name x pos) [i] (fName i) :=
  PG.weak (pg_name hN hi hx hf) fun v σ H Q ⟨b, He, H0e, ρ, B, H0, d, ρ', s, r, hf, q⟩ => by
    unfold fName at hf
    split at hf
    · cases hf
      refine q _ (s.set (by assumption) r fun d hd => nomatch hd) (by simp) fun j hj => ?_
      rw [List.getElem?_set_ne (fun z => hj (by simp [z]))]
    · cases hf
theorem mgs_nil : MGs X [] [] fNil := PGs.weak pgs_nil fun v σ H Q ⟨b, He, H0e, ρ, B, H0, ds, ρ', s, r, hf, q⟩ => by
  cases ds with
  | nil => cases hf; cases r; exact ⟨rfl, q σ s rfl fun _ _ => rfl⟩
  | cons d ds => cases hf
theorem mgs_cons {tg : Expr} {tgs : List Expr} {is js : List Nat} {f : PyData → Env → Option Env} {g : List PyData → Env → Option Env} (h1 : MG X tg is f) (h2 : MGs X tgs js g)
    (hs : (assignEach (tg :: tgs) X.env).map (·.2) = assign tg X.env :: (assignEach tgs X.env).map (·.2) := by rfl) : MGs X (tg :: tgs) (is ++ js) (fCons f g) := PGs.weak (pgs_cons h1 h2 hs) fun v σ H Q ⟨b, He, H0e, ρ, B, H0, ds, ρ', s, r, hf, q⟩ => by
  cases ds with
  | nil => cases hf
  | cons d ds =>
    cases r with
    | cons r1 r2 =>
      simp only [fCons] at hf
      cases hf1 : f d ρ with
      | none => rw [hf1] at hf; cases hf
      | some ρ1 =>
        rw [hf1] at hf
        refine ⟨_, _, rfl, b, He, H0e, ρ, B, H0, d, ρ1, s, r1, hf1, fun σ1 s1 l1 k1 => ⟨b, He, H0e, ρ1, B, H0, ds, ρ', s1, r2, hf, fun σ2 s2 l2 k2 => q σ2 s2 (l2.trans l1) fun i hi => ?_⟩⟩
        rw [k2 i (fun z => hi (List.mem_append_right _ z)), k1 i (fun z => hi (List.mem_append_left _ z))]
theorem mg_tup {tgs : List Expr} {k n : Nat} {is : List Nat} {g : List PyData → Env → Option Env} (hc : X.calm = true) (h : MGs X tgs is g)
    (hn : (assignEach tgs X.env).length = n := by rfl) (hst : (assignEach tgs X.env).findIdx? (·.1) = none := by rfl) : MG X (.Tuple tgs k pos) is (fTup n g) := PG.weak (pg_tup hc h hn hst) fun v σ H Q ⟨b, He, H0e, ρ, B, H0, d, ρ', s, r, hf, q⟩ => by
  cases d with
  | tuple ds =>
    simp only [fTup] at hf
    split at hf
    · rename_i hl
      obtain ⟨a, xs, rfl, e, al⟩ := r.tup_inv
      exact ⟨a, xs, rfl, .inl (.inl (s.hr.le _ _ e)), by rw [al.length, hl], b, He, H0e, ρ, B, H0, ds, ρ', s, al, hf, q⟩
    · cases hf
  | _ => cases hf
theorem ms_unp {tg : Expr} {is : List Nat} {f : PyData → Env → Option Env} (he : ME X e m) (hg : MG X tg is f) (hs : swapsWithSole [tg] e pos.line X.env = pure false := by rfl) (hw : swappedStores [tg] e X.env = pure none := by rfl)
    (h1 : (assignEach [tg] X.env).map (·.2) = [assign tg X.env] := by rfl) : MS X (.Assign [tg] e pos) (sUnp f m) := PS.weak (ps_asg he hg hs hw h1) fun D σ H ⟨b, He, H0e, ρ, B, H0, s, q⟩ => by
  unfold sUnp at q
  cases h1 : m ρ B with
  | bad => rw [h1] at q; exact q.elim
  | ok e1 B1 =>
    rw [h1, bind_ok] at q
    refine rdE_at s h1 fun v H01 H1 g1 s1 r1 => ?_
    cases hd1 : e1.data with
    | none => rw [hd1] at q; exact q.elim
    | some d1 =>
      obtain ⟨H02, g2, s2, D1⟩ := s.data g1 s1 r1 hd1
      rw [hd1] at q
      cases hf : f d1 ρ with
      | none => simp [hf] at q; exact q.elim
      | some ρ1 =>
        simp [hf] at q
        exact ⟨b, He, H0e, ρ, B1, H02, d1, ρ1, s2, D1, hf, fun σ' s' _ _ => q σ' H02 H1 g2.l0 s'⟩
theorem VRs.noOwn {b : Addr × Addr} {H0 : Hp} {vs : List V} {es : List EV} (h : VRs b H0 vs es) : ∀ e ∈ es, ∀ d, e ≠ .ow d := by
  induction h with
  | nil => intro e he; cases he
  | sh a _ ih => intro e he d; rcases List.mem_cons.mp he with rfl | he
                 · exact nofun
                 · exact ih e he d
  | bg _ ih => intro e he d; rcases List.mem_cons.mp he with rfl | he
               · exact nofun
               · exact ih e he d
theorem ms_par {i j : Nat} {x y : Str} {px py pt : Pos} {kt k2 pt2} {ms : AM} (hc : X.calm = true) (hN : X.N.Nodup) (hi : X.N[i]? = some x) (hj : X.N[j]? = some y) (hij : i ≠ j)
    (hx : X.env.scope.names.lookup x = some .local) (hy : X.env.scope.names.lookup y = some .local) (ha : MA X [a, c] ms)
    (hw : swappedStores [.Tuple [.Name x px, .Name y py] kt pt] (.Tuple [a, c] k2 pt2) X.env = pure (some [x, y]))
    (hs : swapsWithSole [.Tuple [.Name x px, .Name y py] kt pt] (.Tuple [a, c] k2 pt2) pos.line X.env = pure false := by rfl) :
    MS X (.Assign [.Tuple [.Name x px, .Name y py] kt pt] (.Tuple [a, c] k2 pt2) pos) (sPar i j ms) := PS.weak (ps_par hc hN hi hj hij hx hy ha hw hs) fun D σ H ⟨b, He, H0e, ρ, B, H0, s, q⟩ => by
  unfold sPar at q
  cases h1 : ms ρ B with
  | bad => rw [h1] at q; exact q.elim
  | ok es1 B1 =>
    rw [h1, bind_ok] at q
    refine rdA_at s h1 fun vs H01 H1 g1 s1 r1 => ?_
    match es1, r1, q with
    | [], _, q => exact q.elim
    | [_], _, q => exact q.elim
    | _ :: _ :: _ :: _, _, q => exact q.elim
    | [e1, e2], r1, q =>
      by_cases hl : i < ρ.length ∧ j < ρ.length
      · simp only [if_pos hl] at q
        obtain ⟨⟨v1, hv1, R1⟩, n1⟩ := r1.get (He := He) (H := H1) 0 e1 rfl
        obtain ⟨⟨v2, hv2, R2⟩, n2⟩ := r1.get (He := He) (H := H1) 1 e2 rfl
        have hlen := r1.length
        match vs, hlen, hv1, hv2 with
        | [w1, w2], _, hv1, hv2 =>
          cases hv1; cases hv2
          have sA := s1.set (i := i) hl.1 R1 fun d hd => absurd hd (n1 d)
          have sB := sA.set (i := j) (by simpa using hl.2) R2 fun d hd => absurd hd (n2 d)
          exact ⟨v1, v2, rfl, q _ H01 H1 g1.l0 sB⟩
      · simp only [if_neg hl] at q; exact q.elim
end
end Mr
namespace Mr
open PySem PySem.Spec PyProof.Rows L2

/-! ### what is walked -/
abbrev IM := Env → Bag → Out (List PyData)
structure IterOk (J : It) (ds : List PyData) (H0 : Hp) : Prop where
  go : ∀ (H : Hp) (i : Nat) d, Le H0 H → ds[i]? = some d → J.go i H ∧ ∀ x H', J.yld i H x H' → NewRes H0 H x H' (.sh d)
  stop : ∀ (H : Hp) (i : Nat), Le H0 H → ds[i]? = none → J.stop i H
def rdI (mi : IM) : TI := fun σ H R => ∃ b He H0e ρ B H0, SR b He H0e σ ρ B H0 H ∧ match mi ρ B with
  | .ok ds B' => ∀ J H0' H', Gr b H H0 H' H0' → SR b He H0e σ ρ B' H0' H' → IterOk J ds H0' → R J H'
  | .bad => False
abbrev MI (X : Cx) (tg iter : Expr) (mi : IM) : Prop := PI X tg iter (rdI mi)
def itemsD : PyData → Option (List PyData)
  | .list ds => some ds
  | .tuple ds => some ds
  | .str x => some (x.cps.toList.map fun c => .str ⟨#[c]⟩)
  | _ => none
def iVal (m : EM) : IM := fun ρ B => (m ρ B).bind fun e B1 => match e.data.bind itemsD with
  | some ds => .ok ds B1
  | none => .bad
def rangeD (lo hi : Int) : List PyData := (List.range (hi - lo).toNat).map fun (k : Nat) => PyData.int (lo + (k : Int))
def one : List EV → Option PyData
  | [.sh d1] => some d1
  | _ => none
def iRange (ms : AM) : IM := fun ρ B => (ms ρ B).bind fun es B1 => match one es with
  | some (.int j) => if -(2 ^ 62) ≤ j ∧ j < 2 ^ 62 then .ok (rangeD 0 j) B1 else .bad
  | _ => .bad
def two : List EV → Option (PyData × PyData)
  | [.sh d1, .sh d2] => some (d1, d2)
  | _ => none
def iRange2 (ms : AM) : IM := fun ρ B => (ms ρ B).bind fun es B1 => match two es with
  | some (.int i, .int j) => if -(2 ^ 62) ≤ i ∧ i < 2 ^ 62 ∧ -(2 ^ 62) ≤ j ∧ j < 2 ^ 62 then .ok (rangeD i j) B1 else .bad
  | _ => .bad
def zipD (xs ys : List PyData) : List PyData := (xs.zip ys).map fun p => .tuple [p.1, p.2]
def iZipM (ms : AM) : IM := fun ρ B => (ms ρ B).bind fun es B1 => match two es with
  | some (.list xs, .list ys) => .ok (zipD xs ys) B1
  | _ => .bad
def enumD (xs : List PyData) : List PyData := xs.zipIdx.map fun p => .tuple [.int (p.2 : Int), p.1]
def iEnumM (ms : AM) : IM := fun ρ B => (ms ρ B).bind fun es B1 => match one es with
  | some (.list xs) => .ok (enumD xs) B1
  | _ => .bad

theorem iterOk_list {K : PySem.W.Frag} {H0 : Hp} {a : Addr} {xs : List V} {ds : List PyData} (h : H0 a = some (.lst xs)) (al : DnAll H0 xs ds) : IterOk (Itl K a) ds H0 where
  go := fun H i d l hd => by
    obtain ⟨v, hv, r⟩ := al.get hd
    have hs : SqL K H a xs := .inl (.inl (l _ _ h))
    refine ⟨⟨xs, v, hs, hv⟩, fun x H' hy => .inl ⟨hy.1, ?_⟩⟩
    have := hy.2 xs hs
    rw [hv] at this; cases this; exact r
  stop := fun H i l hd => by
    have hs : SqL K H a xs := .inl (.inl (l _ _ h))
    exact ⟨xs, hs, by rw [al.length]; exact List.getElem?_eq_none_iff.mp hd⟩
theorem iterOk_tup {K : PySem.W.Frag} {H0 : Hp} {a : Addr} {xs : List V} {ds : List PyData} (h : H0 a = some (.tup xs)) (al : DnAll H0 xs ds) : IterOk (Itt K a) ds H0 where
  go := fun H i d l hd => by
    obtain ⟨v, hv, r⟩ := al.get hd
    have hs : SqT K H a xs := .inl (.inl (l _ _ h))
    refine ⟨⟨xs, v, hs, hv⟩, fun x H' hy => .inl ⟨hy.1, ?_⟩⟩
    have := hy.2 xs hs
    rw [hv] at this; cases this; exact r
  stop := fun H i l hd => by
    have hs : SqT K H a xs := .inl (.inl (l _ _ h))
    exact ⟨xs, hs, by rw [al.length]; exact List.getElem?_eq_none_iff.mp hd⟩
theorem iterOk_str {H0 : Hp} {x : Str} : IterOk (Its x) (x.cps.toList.map fun c => PyData.str ⟨#[c]⟩) H0 where
  go := fun H i d l hd => by
    rw [List.getElem?_map] at hd
    cases hc : x.cps.toList[i]? with
    | none => rw [hc] at hd; cases hd
    | some c =>
      rw [hc] at hd; cases hd
      have hc' : x.cps[i]? = some c := by simpa using hc
      refine ⟨(Array.getElem?_eq_some_iff.mp hc').1, fun v H' hy => .inl ⟨hy.1, ?_⟩⟩
      obtain ⟨_, c', e1, rfl⟩ := hy
      rw [hc'] at e1; cases e1
      exact .str _
  stop := fun H i l hd => by
    have := List.getElem?_eq_none_iff.mp hd
    simpa [Its] using this
theorem iterOk_range {H0 : Hp} {lo hi : Int} : IterOk (Itr lo (hi - lo).toNat) (rangeD lo hi) H0 where
  go := fun H i d l hd => by
    unfold rangeD at hd
    rw [List.getElem?_map] at hd
    cases hc : (List.range (hi - lo).toNat)[i]? with
    | none => rw [hc] at hd; cases hd
    | some c =>
      rw [hc] at hd; cases hd
      obtain ⟨h1, h2⟩ := List.getElem?_eq_some_iff.mp hc
      simp at h1 h2
      subst h2
      refine ⟨by simpa [Itr] using h1, fun v H' hy => .inl ⟨hy.1, ?_⟩⟩
      have e : v = .int (lo + (i : Int)) := hy.2
      rw [e]; exact .int _
  stop := fun H i l hd => by
    have := List.getElem?_eq_none_iff.mp hd
    simpa [Itr, rangeD] using this
theorem VRs.two {b : Addr × Addr} {H0 : Hp} {vs : List V} {es : List EV} {p : PyData × PyData} (h : VRs b H0 vs es) (e : Mr.two es = some p) : ∃ v1 v2, vs = [v1, v2] ∧ Dn H0 v1 p.1 ∧ Dn H0 v2 p.2 := by
  unfold Mr.two at e
  split at e
  · cases e
    cases h with
    | sh a r =>
      cases r with
      | sh a2 r2 => cases r2; exact ⟨_, _, rfl, a, a2⟩
  · cases e
theorem VRs.one {b : Addr × Addr} {H0 : Hp} {vs : List V} {es : List EV} {p : PyData} (h : VRs b H0 vs es) (e : Mr.one es = some p) : ∃ v1, vs = [v1] ∧ Dn H0 v1 p := by
  unfold Mr.one at e
  split at e
  · cases e
    cases h with
    | sh a r => cases r; exact ⟨_, rfl, a⟩
  · cases e
theorem iterOk_zip {K : PySem.W.Frag} {H0 : Hp} {a c : Addr} {xs ys : List V} {ds es : List PyData} (h : H0 a = some (.lst xs)) (al : DnAll H0 xs ds) (h2 : H0 c = some (.lst ys)) (al2 : DnAll H0 ys es) : IterOk (Itz K a c) (zipD ds es) H0 where
  go := fun H i d l hd => by
    unfold zipD at hd
    rw [List.getElem?_map] at hd
    cases hp : (ds.zip es)[i]? with
    | none => rw [hp] at hd; cases hd
    | some p =>
      rw [hp] at hd; cases hd
      obtain ⟨q1, q2⟩ := List.getElem?_zip_eq_some.mp hp
      obtain ⟨v, hv, r⟩ := al.get q1
      obtain ⟨v2, hv2, r2⟩ := al2.get q2
      have hs : SqL K H a xs := .inl (.inl (l _ _ h))
      have hs2 : SqL K H c ys := .inl (.inl (l _ _ h2))
      refine ⟨⟨xs, ys, v, v2, hs, hs2, hv, hv2⟩, fun x H' hy => ?_⟩
      obtain ⟨T, x1, x2, rfl, hT, rfl, f1, f2⟩ := hy
      have e1 := f1 xs hs
      have e2 := f2 ys hs2
      rw [hv] at e1; rw [hv2] at e2; cases e1; cases e2
      exact .inr ⟨T, _, _, rfl, rfl, hT, rfl, .cons r (.cons r2 .nil)⟩
  stop := fun H i l hd => by
    have hs : SqL K H a xs := .inl (.inl (l _ _ h))
    have hs2 : SqL K H c ys := .inl (.inl (l _ _ h2))
    refine ⟨xs, ys, hs, hs2, ?_⟩
    have := List.getElem?_eq_none_iff.mp hd
    simp [zipD] at this
    rw [al.length, al2.length]; omega
theorem iterOk_enum {K : PySem.W.Frag} {H0 : Hp} {a : Addr} {xs : List V} {ds : List PyData} (h : H0 a = some (.lst xs)) (al : DnAll H0 xs ds) : IterOk (Ite K a) (enumD ds) H0 where
  go := fun H i d l hd => by
    unfold enumD at hd
    rw [List.getElem?_map, List.getElem?_zipIdx] at hd
    cases hp : ds[i]? with
    | none => rw [hp] at hd; cases hd
    | some p =>
      rw [hp] at hd
      simp at hd
      subst hd
      obtain ⟨v, hv, r⟩ := al.get hp
      have hs : SqL K H a xs := .inl (.inl (l _ _ h))
      refine ⟨⟨xs, v, hs, hv⟩, fun x H' hy => ?_⟩
      obtain ⟨T, x1, rfl, hT, rfl, f1⟩ := hy
      have e1 := f1 xs hs
      rw [hv] at e1; cases e1
      exact .inr ⟨T, _, _, rfl, rfl, hT, rfl, .cons (.int _) (.cons r .nil)⟩
  stop := fun H i l hd => by
    have hs : SqL K H a xs := .inl (.inl (l _ _ h))
    refine ⟨xs, hs, ?_⟩
    have := List.getElem?_eq_none_iff.mp hd
    simp [enumD] at this
    rw [al.length]; omega
section
variable {X : Cx} {a c e tg : Expr} {es : List Expr} {m m1 m2 : EM} {pos : Pos}
theorem mi_val (h : ME X e m) : MI X tg e (iVal m) := ⟨fun pins s0 σ H R I ⟨b, He, H0e, ρ, B, H0, s, q⟩ => by
  unfold iVal at q
  cases h1 : m ρ B with
  | bad => rw [h1] at q; exact q.elim
  | ok e1 B1 =>
    rw [h1, bind_ok] at q
    cases hd1 : e1.data with
    | none => rw [hd1] at q; exact q.elim
    | some d1 =>
      rw [hd1] at q
      cases d1 with
      | list ds =>
        refine (pi_list (tg := tg) h).run pins s0 σ H R I (rdE_at s h1 fun v H01 H1 g1 s1 r1 => ?_)
        obtain ⟨H02, g2, s2, D1⟩ := s.data g1 s1 r1 hd1
        obtain ⟨a, xs, rfl, ha, al⟩ := D1.lst_inv
        exact ⟨a, rfl, ⟨xs, .inl (.inl (s2.hr.le _ _ ha))⟩, q _ H02 H1 g2 s2 (iterOk_list ha al)⟩
      | tuple ds =>
        refine (pi_tup (tg := tg) h).run pins s0 σ H R I (rdE_at s h1 fun v H01 H1 g1 s1 r1 => ?_)
        obtain ⟨H02, g2, s2, D1⟩ := s.data g1 s1 r1 hd1
        obtain ⟨a, xs, rfl, ha, al⟩ := D1.tup_inv
        exact ⟨a, rfl, ⟨xs, .inl (.inl (s2.hr.le _ _ ha))⟩, q _ H02 H1 g2 s2 (iterOk_tup ha al)⟩
      | str x =>
        refine (pi_str (tg := tg) h).run pins s0 σ H R I (rdE_at s h1 fun v H01 H1 g1 s1 r1 => ?_)
        obtain ⟨H02, g2, s2, D1⟩ := s.data g1 s1 r1 hd1
        obtain rfl := D1.str_inv
        exact ⟨x, rfl, q _ H02 H1 g2 s2 iterOk_str⟩
      | _ => exact q.elim⟩
theorem PI.weak {t t' : TI} (h : PI X tg e t) (w : ∀ σ H Q, t' σ H Q → t σ H Q) : PI X tg e t' := ⟨fun pins s σ H Q I q => h.run pins s σ H Q I (w σ H Q q)⟩
theorem mi_range {p : Pos} {ms : AM} (hg : Gl X "range") (hm : X.mg "range" = none) (ha : MA X [a] ms) (hs : starEach [a] X.env = [(false, eval a X.env)] := by rfl) : MI X tg (.Call (.Name "range" p) [a] [] pos) (iRange ms) :=
  PI.weak (pi_range1 hg hm ha hs) fun σ H R ⟨b, He, H0e, ρ, B, H0, s, q⟩ => by
    unfold iRange at q
    cases h1 : ms ρ B with
    | bad => rw [h1] at q; exact q.elim
    | ok es1 B1 =>
      rw [h1, bind_ok] at q
      refine rdA_at s h1 fun vs H01 H1 g1 s1 r1 => ?_
      cases ht : one es1 with
      | none => rw [ht] at q; exact q.elim
      | some d1 =>
        rw [ht] at q
        obtain ⟨v1, rfl, r⟩ := r1.one ht
        cases d1 with
        | int j =>
          by_cases hj : -(2 ^ 62) ≤ j ∧ j < 2 ^ 62
          · simp only [if_pos hj] at q
            obtain rfl := r.int_inv
            refine ⟨j, rfl, hj.1, hj.2, q _ H01 H1 g1 s1 ?_⟩
            have := iterOk_range (H0 := H01) (lo := 0) (hi := j)
            rwa [Int.sub_zero] at this
          · simp only [if_neg hj] at q
        | _ => exact q.elim
theorem mi_range2 {p : Pos} {ms : AM} (hg : Gl X "range") (hm : X.mg "range" = none) (ha : MA X [a, c] ms) (hs : starEach [a, c] X.env = [(false, eval a X.env), (false, eval c X.env)] := by rfl) (hs2 : starEach [c] X.env = [(false, eval c X.env)] := by rfl) : MI X tg (.Call (.Name "range" p) [a, c] [] pos) (iRange2 ms) :=
  PI.weak (pi_range2 hg hm ha hs hs2) fun σ H R ⟨b, He, H0e, ρ, B, H0, s, q⟩ => by
    unfold iRange2 at q
    cases h1 : ms ρ B with
    | bad => rw [h1] at q; exact q.elim
    | ok es1 B1 =>
      rw [h1, bind_ok] at q
      refine rdA_at s h1 fun vs H01 H1 g1 s1 r1 => ?_
      cases ht : two es1 with
      | none => rw [ht] at q; exact q.elim
      | some p =>
        rw [ht] at q
        obtain ⟨v1, v2, rfl, r, r2⟩ := r1.two ht
        obtain ⟨d1, d2⟩ := p
        cases d1 with
        | int i =>
          cases d2 with
          | int j =>
            by_cases hj : -(2 ^ 62) ≤ i ∧ i < 2 ^ 62 ∧ -(2 ^ 62) ≤ j ∧ j < 2 ^ 62
            · simp only [if_pos hj] at q
              obtain rfl := r.int_inv
              obtain rfl := r2.int_inv
              exact ⟨i, j, rfl, hj, q _ H01 H1 g1 s1 iterOk_range⟩
            · simp only [if_neg hj] at q
          | _ => exact q.elim
        | _ => exact q.elim
/-! ### the for loop -/
def forL (f : PyData → Env → Option Env) (body : SM) : List PyData → SM
  | [], ρ, B => .ok (.nx ρ) B
  | d :: ds, ρ, B => match f d ρ with
    | none => .bad
    | some ρ1 => match body ρ1 B with
      | .ok (.nx ρ2) B2 => forL f body ds ρ2 B2
      | .ok (.ct ρ2) B2 => forL f body ds ρ2 B2
      | .ok (.bk ρ2) B2 => .ok (.nx ρ2) B2
      | o => o
def sFor (mi : IM) (f : PyData → Env → Option Env) (body : SM) : SM := fun ρ B => (mi ρ B).bind fun ds B1 => forL f body ds ρ B1
theorem for_rd {mi : IM} {is : List Nat} {f : PyData → Env → Option Env} {body : SM} {D : Ends} {σ : L2.St} {H : Hp} (h : rdS (sFor mi f body) D σ H) : tFor (rdI mi) (rdG is f) (rdS body) D σ H := by
  obtain ⟨b, He, H0e, ρ, B, H0, s, q⟩ := h
  unfold sFor at q
  cases h1 : mi ρ B with
  | bad => rw [h1] at q; exact q.elim
  | ok ds B1 =>
    rw [h1, bind_ok] at q
    refine ⟨b, He, H0e, ρ, B, H0, s, ?_⟩
    rw [h1]
    intro J H01 H1 g1 s1 io
    refine ⟨fun i m σ H => ∃ ρ B H0, SR b He H0e σ ρ B H0 H ∧ Le H01 H0 ∧ i + m = ds.length ∧ postS b He H0e H01 D (forL f body (ds.drop i) ρ B), ⟨ds.length, ρ, B1, H01, s1, Le.refl _, by omega, q.mono g1.l0⟩, fun i m σ H hW => ?_⟩
    obtain ⟨ρ, B, H0, s, l, hm, q⟩ := hW
    cases hd : ds[i]? with
    | none =>
      left
      have hle := List.getElem?_eq_none_iff.mp hd
      rw [List.drop_eq_nil_of_le hle] at q
      exact ⟨io.stop H i (l.trans s.hr.le) hd, q σ H0 H l s⟩
    | some d =>
      right
      obtain ⟨hi, hde⟩ := List.getElem?_eq_some_iff.mp hd
      have e1 : ds.drop i = d :: ds.drop (i + 1) := by rw [List.drop_eq_getElem_cons hi, hde]
      rw [e1] at q
      obtain ⟨go, yl⟩ := io.go H i d (l.trans s.hr.le) hd
      refine ⟨go, fun σ' H' => ∃ ρ B H0, SR b He H0e σ' ρ B H0 H' ∧ Le H01 H0 ∧ postS b He H0e H01 D (forL f body (ds.drop (i + 1)) ρ B), fun σ' H' hN => ?_, fun x H' hy => ?_⟩
      · obtain ⟨ρ', B', H0', s', l', q'⟩ := hN
        exact ⟨m - 1, by omega, ρ', B', H0', s', l', by omega, q'⟩
      · have n0 := yl x H' hy
        have n1 : NewRes H0 H x H' (.sh d) := by
          rcases n0 with ⟨z, r⟩ | ⟨p, vs, es, z1, z2, z3, z4, z5⟩
          · exact .inl ⟨z, Dn.mono l _ _ r⟩
          · exact .inr ⟨p, vs, es, z1, z2, z3, z4, DnAll.mono l _ _ z5⟩
        obtain ⟨H02, g2, s2, r2⟩ := n1.ok s
        simp only [forL] at q
        cases hf : f d ρ with
        | none => rw [hf] at q; exact q.elim
        | some ρ1 =>
          rw [hf] at q
          refine ⟨b, He, H0e, ρ, B, H02, d, ρ1, s2, r2, hf, fun σ1 s3 _ _ => ⟨b, He, H0e, ρ1, B, H02, s3, ?_⟩⟩
          cases hb : body ρ1 B with
          | bad => simp only [hb] at q; exact q.elim
          | ok fl B2 =>
            simp only [hb] at q
            have l2 : Le H01 H02 := l.trans g2.l0
            cases fl with
            | nx ρ2 => exact fun σ' H0' H' z s' => ⟨ρ2, B2, H0', s', l2.trans z, q⟩
            | ct ρ2 => exact fun σ' H0' H' z s' => ⟨ρ2, B2, H0', s', l2.trans z, q⟩
            | bk ρ2 => exact fun σ' H0' H' z s' => q σ' H0' H' (l2.trans z) s'
            | rt e => exact q
theorem ms_for {iter : Expr} {body : List Stmt} {mi : IM} {is : List Nat} {f : PyData → Env → Option Env} {mb : SM} (hp : PassesOwn (model X.prog X.w) X.A X.env X.xe) (hc : X.calm = true) (hi : MI X tg iter mi) (hg : MG X tg is f) (hb : MSs X body mb)
    (hs : ∀ x, foldedSetIterable iter X.env x = pure x := by intro _; rfl) : MS X (.For tg iter body [] pos) (sFor mi f mb) := PS.weak (ps_for hp hc hi hg hb hs) fun _ _ _ => for_rd
theorem mi_zip {p tpos : Pos} {elts : List Expr} {kk : Nat} {ms : AM} (hg : Gl X "zip") (hm : X.mg "zip" = none) (ha : MA X [a, c] ms)
    (hs : starEach [a, c] X.env = (false, eval a X.env) :: starEach [c] X.env := by rfl) (hpl : (backTo pos (starEach [c] X.env)).any (·.1) = false := by rfl) : MI X (.Tuple elts kk tpos) (.Call (.Name "zip" p) [a, c] [] pos) (iZipM ms) :=
  PI.weak (pi_zip hg hm ha hs hpl) fun σ H R ⟨b, He, H0e, ρ, B, H0, s, q⟩ => by
    unfold iZipM at q
    cases h1 : ms ρ B with
    | bad => rw [h1] at q; exact q.elim
    | ok es1 B1 =>
      rw [h1, bind_ok] at q
      refine rdA_at s h1 fun vs H01 H1 g1 s1 r1 => ?_
      cases ht : two es1 with
      | none => rw [ht] at q; exact q.elim
      | some p =>
        rw [ht] at q
        obtain ⟨v1, v2, rfl, r, r2⟩ := r1.two ht
        obtain ⟨d1, d2⟩ := p
        cases d1 with
        | list xs =>
          cases d2 with
          | list ys =>
            obtain ⟨a1, zs, rfl, ha, al⟩ := r.lst_inv
            obtain ⟨a2, ws, rfl, ha2, al2⟩ := r2.lst_inv
            exact ⟨a1, a2, zs, ws, rfl, .inl (.inl (s1.hr.le _ _ ha)), .inl (.inl (s1.hr.le _ _ ha2)), q _ H01 H1 g1 s1 (iterOk_zip ha al ha2 al2)⟩
          | _ => exact q.elim
        | _ => exact q.elim
theorem mi_enum {p tpos : Pos} {elts : List Expr} {kk : Nat} {ms : AM} (hg : Gl X "enumerate") (hm : X.mg "enumerate" = none) (ha : MA X [a] ms)
    (hs : starEach [a] X.env = [(false, eval a X.env)] := by rfl) : MI X (.Tuple elts kk tpos) (.Call (.Name "enumerate" p) [a] [] pos) (iEnumM ms) :=
  PI.weak (pi_enum hg hm ha hs) fun σ H R ⟨b, He, H0e, ρ, B, H0, s, q⟩ => by
    unfold iEnumM at q
    cases h1 : ms ρ B with
    | bad => rw [h1] at q; exact q.elim
    | ok es1 B1 =>
      rw [h1, bind_ok] at q
      refine rdA_at s h1 fun vs H01 H1 g1 s1 r1 => ?_
      cases ht : one es1 with
      | none => rw [ht] at q; exact q.elim
      | some d1 =>
        rw [ht] at q
        obtain ⟨v1, rfl, r⟩ := r1.one ht
        cases d1 with
        | list xs =>
          obtain ⟨a1, zs, rfl, ha, al⟩ := r.lst_inv
          exact ⟨a1, zs, rfl, .inl (.inl (s1.hr.le _ _ ha)), q _ H01 H1 g1 s1 (iterOk_enum ha al)⟩
        | _ => exact q.elim
end
end Mr
namespace Mr
open PySem PySem.Spec PyProof.Rows L2

def wipeE (ρ : Env) : List Nat → Env
  | [] => ρ
  | v :: vs => (wipeE ρ vs).set v none
theorem wipeE_length (ρ : Env) : ∀ vs : List Nat, (wipeE ρ vs).length = ρ.length
  | [] => rfl
  | v :: vs => by unfold wipeE; rw [List.length_set, wipeE_length ρ vs]
theorem wipeE_some {ρ : Env} {i : Nat} {x : EV} : ∀ {vs : List Nat}, (wipeE ρ vs)[i]? = some (some x) → ρ[i]? = some (some x) ∧ i ∉ vs
  | [], h => ⟨h, by simp⟩
  | v :: vs, h => by
    unfold wipeE at h
    by_cases hv : v = i
    · subst hv
      by_cases hl : v < (wipeE ρ vs).length
      · rw [List.getElem?_set_self hl] at h; cases h
      · rw [List.getElem?_eq_none (by simpa using hl)] at h; cases h
    · rw [List.getElem?_set_ne hv] at h
      obtain ⟨a, b⟩ := wipeE_some h
      exact ⟨a, by simp [Ne.symm hv, b]⟩
theorem wipe_get (σ : L2.St) (i : Nat) : ∀ vs : List Nat, (L2.wipe σ vs)[i]? = if i ∈ vs then (if i < σ.length then some none else none) else σ[i]?
  | [] => by simp [L2.wipe]
  | v :: vs => by
    unfold L2.wipe
    by_cases hv : v = i
    · subst hv
      by_cases hl : v < σ.length
      · rw [List.getElem?_set_self (by rw [L2.wipe_length]; exact hl)]; simp [hl]
      · rw [List.getElem?_eq_none (by rw [List.length_set, L2.wipe_length]; omega)]; simp [hl]
    · rw [List.getElem?_set_ne hv, wipe_get σ i vs]
      have : (i ∈ v :: vs) ↔ i ∈ vs := by simp [Ne.symm hv]
      simp only [this]
theorem wipe_same {σ σ' : L2.St} {vs is : List Nat} (hl : σ'.length = (L2.wipe σ vs).length) (hk : ∀ i, i ∉ is → σ'[i]? = (L2.wipe σ vs)[i]?) (hs : ∀ i ∈ is, i ∈ vs) : L2.wipe σ' vs = L2.wipe σ vs := by
  rw [L2.wipe_length] at hl
  apply List.ext_getElem?
  intro i
  rw [wipe_get, wipe_get]
  by_cases hi : i ∈ vs
  · simp [hi, hl]
  · simp only [hi, if_false]
    rw [hk i (fun z => hi (hs i z)), wipe_get]
    simp [hi]
def compL (f : PyData → Env → Option Env) (tt : TM) (me : EM) : List PyData → Env → List PyData → Bag → Out (List PyData)
  | [], _, acc, B => .ok acc B
  | d :: ds, ρ, acc, B => match f d ρ with
    | none => .bad
    | some ρ1 => (tt ρ1 B).bind fun k B1 => if k then (me ρ1 B1).bind fun e B2 => (match e.data with
        | some x => if acc.length < sizeLine then compL f tt me ds ρ (acc ++ [x]) B2 else .bad
        | none => .bad) else compL f tt me ds ρ acc B1
def eComp (vs : List Nat) (mi : IM) (f : PyData → Env → Option Env) (tt : TM) (me : EM) : EM := fun ρ B => (mi ρ B).bind fun ds B1 => (compL f tt me ds (wipeE ρ vs) [] B1).bind fun acc B2 => .ok (.ow (.list acc)) B2
section
variable {b : Addr × Addr} {He H0e H0 H H' H0' : Hp} {σ : L2.St} {ρ : Env} {B B' : Bag}
theorem SR.wipe (s : SR b He H0e σ ρ B H0 H) (vs : List Nat) : SR b He H0e (L2.wipe σ vs) (wipeE ρ vs) B H0 H := by
  refine ⟨s.hr, s.gr, by rw [L2.wipe_length, wipeE_length, s.len], fun i e he => ?_, fun i j d d' hij hi hj => ?_⟩
  · obtain ⟨h1, h2⟩ := wipeE_some he
    obtain ⟨v, hv, r⟩ := s.slot i e h1
    exact ⟨v, by rw [wipe_get]; simp [h2, hv], r⟩
  · obtain ⟨h1, h2⟩ := wipeE_some hi
    obtain ⟨h3, h4⟩ := wipeE_some hj
    rw [wipe_get, wipe_get]
    simp only [h2, h4, if_false]
    exact s.own i j d d' hij h1 h3
/-- an object that no slot owns, new since the entry, changes -/
theorem SR.updN (s : SR b He H0e σ ρ B H0 H) {p : Addr} {o : HO} (n0 : H0 p = none) (ne : He p = none) (nb : p ≠ b.1) (no : ∀ (i : Nat) d q, ρ[i]? = some (some (.ow d)) → σ[i]? = some (some (.ref q)) → q ≠ p) : SR b He H0e σ ρ B H0 (upd H p o) := by
  refine ⟨⟨fun a u e => ?_, s.hr.fb, ⟨?_, s.hr.bag.2⟩, s.hr.ok⟩, ⟨fun a u na e => ?_, s.gr.l0, s.gr.n0, s.gr.fb⟩, s.len, fun i e he => ?_, s.own⟩
  · rw [upd_ne (ne_of_none e n0)]; exact s.hr.le a u e
  · rw [upd_ne nb.symm]; exact s.hr.bag.1
  · rw [upd_ne (ne_of_none e ne)]; exact s.gr.kp a u na e
  · obtain ⟨v, hv, r⟩ := s.slot i e he
    refine ⟨v, hv, ?_⟩
    cases e with
    | sh d => exact r
    | bg => exact r
    | ow d =>
      obtain ⟨q, vs, ds, rfl, h1, h2, h3, h4, h5, h6⟩ := r
      exact ⟨q, vs, ds, rfl, h1, h2, h3, h4, by rw [upd_ne (no i d q he hv)]; exact h5, h6⟩
end
theorem comp_rd {vs is : List Nat} {mi : IM} {f : PyData → Env → Option Env} {tt : TM} {me : EM} (hs : ∀ i ∈ is, i ∈ vs) {σ : L2.St} {H : Hp} {Q : VK} (h : rdE (eComp vs mi f tt me) σ H Q) : tLc (rdI mi) (rdG is f) (rdT tt) (rdE me) vs σ H Q := by
  obtain ⟨b, He, H0e, ρ, B, H0, s, q⟩ := h
  unfold eComp at q
  cases h1 : mi ρ B with
  | bad => rw [h1] at q; exact q.elim
  | ok ds B1 =>
    rw [h1, bind_ok] at q
    refine ⟨b, He, H0e, ρ, B, H0, s, ?_⟩
    rw [h1]
    intro J H01 H1 g1 s1 io D hD
    have nD : D ≠ b.1 := s1.notb hD
    have hDe : He D = none := s.gr.kp.none nD (g1.kp.none nD hD)
    have n01 : H01 D = none := s1.hr.le.none hD
    have ownD : ∀ (i : Nat) d q, (wipeE ρ vs)[i]? = some (some (.ow d)) → (L2.wipe σ vs)[i]? = some (some (.ref q)) → q ≠ D := fun i d q hi hq => by
      obtain ⟨⟨o, ho⟩, _⟩ := (s1.wipe vs).ownH hi hq
      exact ne_of_none ho hD
    obtain ⟨gD, sD⟩ := (s1.wipe vs).fresh (o := .lst []) hD
    refine ⟨fun i m Hc => ∃ B H0c acc as, SR b He H0e (L2.wipe σ vs) (wipeE ρ vs) B H0c Hc ∧ Gr b H1 H01 Hc H0c ∧ i + m = ds.length ∧ Hc D = some (.lst as) ∧ H0c D = none ∧ DnAll H0c as acc ∧
        (match (compL f tt me (ds.drop i) (wipeE ρ vs) acc B).bind fun acc B2 => Out.ok (EV.ow (.list acc)) B2 with
          | .ok e B' => ∀ v H0' H', Gr b H H0 H' H0' → SR b He H0e σ ρ B' H0' H' → VR b H H0' H' v e → Q v H'
          | .bad => False), ⟨ds.length, B1, H01, [], [], sD, gD, by omega, upd_same, n01, .nil, q⟩, fun i m Hc hW => ?_⟩
    obtain ⟨B, H0c, acc, as, sW, gW, hm, hDc, h0D, al, q⟩ := hW
    cases hd : ds[i]? with
    | none =>
      left
      have hle := List.getElem?_eq_none_iff.mp hd
      rw [List.drop_eq_nil_of_le hle] at q
      exact ⟨io.stop Hc i (gW.l0.trans sW.hr.le) hd, q _ H0c Hc (g1.trans gW) (s1.more gW sW.hr) ⟨D, as, acc, rfl, nD, g1.kp.none nD hD, h0D, rfl, hDc, al⟩⟩
    | some d =>
      right
      obtain ⟨hi, hde⟩ := List.getElem?_eq_some_iff.mp hd
      have e1 : ds.drop i = d :: ds.drop (i + 1) := by rw [List.drop_eq_getElem_cons hi, hde]
      rw [e1] at q
      obtain ⟨go, yl⟩ := io.go Hc i d (gW.l0.trans sW.hr.le) hd
      refine ⟨go, fun Hc => ∃ B H0c acc as, SR b He H0e (L2.wipe σ vs) (wipeE ρ vs) B H0c Hc ∧ Gr b H1 H01 Hc H0c ∧ Hc D = some (.lst as) ∧ H0c D = none ∧ DnAll H0c as acc ∧
        (match (compL f tt me (ds.drop (i + 1)) (wipeE ρ vs) acc B).bind fun acc B2 => Out.ok (EV.ow (.list acc)) B2 with
          | .ok e B' => ∀ v H0' H', Gr b H H0 H' H0' → SR b He H0e σ ρ B' H0' H' → VR b H H0' H' v e → Q v H'
          | .bad => False), fun H' hN => ?_, fun x H' hy => ?_⟩
      · obtain ⟨B', H0', acc', as', a1, a2, a3, a4, a5, a6⟩ := hN
        exact ⟨m - 1, by omega, B', H0', acc', as', a1, a2, by omega, a3, a4, a5, a6⟩
      · have n1 : NewRes H0c Hc x H' (.sh d) := by
          rcases yl x H' hy with ⟨z, r⟩ | ⟨p, vs, es, z1, z2, z3, z4, z5⟩
          · exact .inl ⟨z, Dn.mono gW.l0 _ _ r⟩
          · exact .inr ⟨p, vs, es, z1, z2, z3, z4, DnAll.mono gW.l0 _ _ z5⟩
        obtain ⟨H02, g2, s2, r2⟩ := n1.ok sW
        simp only [compL] at q
        cases hf : f d (wipeE ρ vs) with
        | none => rw [hf] at q; exact q.elim
        | some ρ1 =>
          rw [hf] at q
          refine ⟨b, He, H0e, wipeE ρ vs, B, H02, d, ρ1, s2, r2, hf, fun σ1 s3 l3 k3 => ⟨wipe_same l3 k3 hs, ?_⟩⟩
          cases ht : tt ρ1 B with
          | bad => simp only [ht] at q; exact q.elim
          | ok k B2 =>
            simp only [ht, bind_ok] at q
            refine rdT_at s3 ht fun H03 H3 g3 s4 => ?_
            cases k with
            | false =>
              exact ⟨B2, H03, acc, as, sW.more (g2.trans g3) s4.hr, gW.trans (g2.trans g3), (g2.trans g3).kp _ _ nD hDc, (g2.trans g3).n0 _ _ hDc h0D, DnAll.mono (g2.trans g3).l0 _ _ al, q⟩
            | true =>
              cases he : me ρ1 B2 with
              | bad => simp [he] at q
              | ok e3 B3 =>
                simp only [he, bind_ok, if_true] at q
                refine rdE_at s4 he fun y H04 H4 g4 s5 r5 => ?_
                cases hx : e3.data with
                | none => simp [hx] at q
                | some x3 =>
                  simp only [hx] at q
                  obtain ⟨H05, g5, s6, D5⟩ := s4.data g4 s5 r5 hx
                  by_cases hl : acc.length < sizeLine
                  · simp only [if_pos hl] at q
                    have gg := (g2.trans g3).trans g5
                    have hd4 := gg.kp _ _ nD hDc
                    have h05 := gg.n0 _ _ hDc h0D
                    have g6 := gW.trans gg
                    exact ⟨as, hd4, by rw [al.length]; exact hl, B3, H05, acc ++ [x3], as ++ [y], (sW.more gg s6.hr).updN h05 hDe nD ownD, ⟨fun a o na e => by rw [upd_ne (ne_of_none e hD)]; exact g6.kp a o na e, g6.l0, g6.n0, g6.fb⟩, upd_same, h05, (DnAll.mono gg.l0 _ _ al).append (.cons D5 .nil), q⟩
                  · simp [hl] at q
/-! ### list comprehensions -/
abbrev MTs (X : Cx) (ifs : List Expr) (m : TM) : Prop := PTs X ifs (rdT m)
def tYesM : TM := fun _ B => .ok true B
section
variable {X : Cx} {a c e tg iter elt : Expr} {ifs : List Expr} {es : List Expr} {m m1 m2 : EM} {pos : Pos}
theorem mts_nil : MTs X [] tYesM := ⟨fun pins s0 σ H Q I ⟨b, He, H0e, ρ, B, H0, s, q⟩ => pts_nil.run pins s0 σ H Q I (q H0 H (Gr.refl s.hr.fb) s)⟩
theorem mts_one {t : TM} (h : MT X c t) : MTs X [c] t := pts_one h
theorem me_lc {scope : Scope} {own : List (Str × Nat)} {is : List Nat} {mi : IM} {f : PyData → Env → Option Env} {tt : TM} {me : EM} (hc : X.calm = true) (hN : X.N.Nodup) (hi : MI X tg iter mi) (ok : BlkOk X.N X.env.scope scope own)
    (hs : ∀ i ∈ is, i ∈ own.map (·.2))
    (hg : ∀ (s : Shared) (H : Hp) (C : Addr) (cl : List (Str × Addr)) (fp : List Addr), MG (X.blk s H scope (compEnvC scope cl C X.env) fp) tg is f) (ht : ∀ (s : Shared) (H : Hp) (C : Addr) (cl : List (Str × Addr)) (fp : List Addr), MTs (X.blk s H scope (compEnvC scope cl C X.env) fp) ifs tt)
    (he : ∀ (s : Shared) (H : Hp) (C : Addr) (cl : List (Str × Addr)) (fp : List Addr), ME (X.blk s H scope (compEnvC scope cl C X.env) fp) elt me) (hf : ∀ x, foldedSetIterable iter X.env x = pure x := by intro _; rfl) :
    ME X (.ListComp elt [⟨tg, iter, ifs, 0⟩] scope pos) (eComp (own.map (·.2)) mi f tt me) := PE.weak (pe_lc hc hN hi ok hg ht he hf) fun _ _ _ => comp_rd hs
theorem ms_setLc {i : Nat} {y : Str} {py spos : Pos} {scope : Scope} {own : List (Str × Nat)} {is : List Nat} {mi : IM} {f : PyData → Env → Option Env} {tt : TM} {me : EM} (hc : X.calm = true) (hN : X.N.Nodup) (hy : X.N[i]? = some y) (hyl : X.env.scope.names.lookup y = some .local)
    (hsw : swapsWith (.ListComp elt [⟨tg, iter, ifs, 0⟩] scope pos) (some (.Name y py)) spos.line X.env = pure true) (hi : MI X tg iter mi) (ok : BlkOk X.N X.env.scope scope own)
    (hs : ∀ i ∈ is, i ∈ own.map (·.2))
    (hg : ∀ (s : Shared) (H : Hp) (C : Addr) (cl : List (Str × Addr)) (fp : List Addr), MG (X.blk s H scope (compEnvC scope cl C X.env) fp) tg is f) (ht : ∀ (s : Shared) (H : Hp) (C : Addr) (cl : List (Str × Addr)) (fp : List Addr), MTs (X.blk s H scope (compEnvC scope cl C X.env) fp) ifs tt)
    (he : ∀ (s : Shared) (H : Hp) (C : Addr) (cl : List (Str × Addr)) (fp : List Addr), ME (X.blk s H scope (compEnvC scope cl C X.env) fp) elt me) (hf : ∀ x, foldedSetIterable iter X.env x = pure x := by intro _; rfl) :
    MS X (.Assign [.Name y py] (.ListComp elt [⟨tg, iter, ifs, 0⟩] scope pos) spos) (sSet i (eComp (own.map (·.2)) mi f tt me)) := PS.weak (ps_setLc hc hN hy hyl hsw hi ok hg ht he hf) fun _ _ _ => set_rd fun _ _ _ => comp_rd hs
end
end Mr
namespace Mr
open PySem PySem.Spec PyProof.Rows L2
section
variable {b : Addr × Addr} {He H0e H0 H H' H0' : Hp} {σ : L2.St} {ρ : Env} {B B' : Bag}
/-- an owned list is another list now -/
theorem SR.updO (s : SR b He H0e σ ρ B H0 H) {i : Nat} {d : PyData} {p : Addr} {vs' : List V} {ds' : List PyData} (hi : ρ[i]? = some (some (.ow d))) (hp : σ[i]? = some (some (.ref p))) (al : DnAll H0 vs' ds') :
    SR b He H0e σ (ρ.set i (some (.ow (.list ds')))) B H0 (upd H p (.lst vs')) := by
  obtain ⟨v, hv, p', vs, ds, rfl, nb, hpe, h0, _, hH, _⟩ := s.slot i _ hi
  rw [hp] at hv; cases hv
  have hil : i < ρ.length := (List.getElem?_eq_some_iff.mp hi).1
  refine ⟨⟨fun a u e => ?_, s.hr.fb, ⟨?_, s.hr.bag.2⟩, s.hr.ok⟩, ⟨fun a u na e => ?_, s.gr.l0, s.gr.n0, s.gr.fb⟩, by simp [s.len], fun j e he => ?_, fun j k d1 d2 hjk hj hk => ?_⟩
  · rw [upd_ne (ne_of_none e h0)]; exact s.hr.le a u e
  · rw [upd_ne nb.symm]; exact s.hr.bag.1
  · rw [upd_ne (ne_of_none e hpe)]; exact s.gr.kp a u na e
  · by_cases hj : i = j
    · subst hj
      rw [List.getElem?_set_self hil] at he
      cases he
      exact ⟨_, hp, p, vs', ds', rfl, nb, hpe, h0, rfl, upd_same, al⟩
    · rw [List.getElem?_set_ne hj] at he
      obtain ⟨v, hv, r⟩ := s.slot j e he
      refine ⟨v, hv, ?_⟩
      cases e with
      | sh d => exact r
      | bg => exact r
      | ow d1 =>
        obtain ⟨q, ws, es, rfl, h1, h2, h3, h4, h5, h6⟩ := r
        have : q ≠ p := fun z => s.own i j d d1 hj hi he (by rw [hp, hv, z])
        exact ⟨q, ws, es, rfl, h1, h2, h3, h4, by rw [upd_ne this]; exact h5, h6⟩
  · have a1 : ∃ d3, ρ[j]? = some (some (.ow d3)) := by
      by_cases hj' : i = j
      · subst hj'; exact ⟨_, hi⟩
      · rw [List.getElem?_set_ne hj'] at hj; exact ⟨_, hj⟩
    have a2 : ∃ d3, ρ[k]? = some (some (.ow d3)) := by
      by_cases hk' : i = k
      · subst hk'; exact ⟨_, hi⟩
      · rw [List.getElem?_set_ne hk'] at hk; exact ⟨_, hk⟩
    obtain ⟨d3, a1⟩ := a1
    obtain ⟨d4, a2⟩ := a2
    exact s.own j k d3 d4 hjk a1 a2
/-- an owned list becomes shared -/
theorem SR.frzS (s : SR b He H0e σ ρ B H0 H) {i : Nat} {d : PyData} (hi : ρ[i]? = some (some (.ow d))) : ∃ H0', Le H0 H0' ∧ SR b He H0e σ (ρ.set i (some (.sh d))) B H0' H := by
  obtain ⟨v, hv, p, vs, ds, rfl, nb, hpe, h0, rfl, hH, al⟩ := s.slot i _ hi
  have hil : i < ρ.length := (List.getElem?_eq_some_iff.mp hi).1
  refine ⟨upd H0 p (.lst vs), Le.new h0, ⟨⟨fun a u e => ?_, ?_, ⟨s.hr.bag.1, Le.new h0 _ _ s.hr.bag.2⟩, s.hr.ok⟩, ⟨s.gr.kp, s.gr.l0.trans (Le.new h0), fun a u e n => ?_, ?_⟩, by simp [s.len], fun j e he => ?_, fun j k d1 d2 hjk hj hk => ?_⟩⟩
  · by_cases ha : a = p
    · subst ha; rw [upd_same] at e; cases e; exact hH
    · rw [upd_ne ha] at e; exact s.hr.le a u e
  · rw [upd_ne nb.symm]; exact s.hr.fb
  · rw [upd_ne (ne_of_none e hpe)]; exact s.gr.n0 a u e n
  · rw [upd_ne nb.symm]; exact s.hr.fb
  · by_cases hj : i = j
    · subst hj
      rw [List.getElem?_set_self hil] at he
      cases he
      exact ⟨_, hv, .lst upd_same (DnAll.mono (Le.new h0) _ _ al)⟩
    · rw [List.getElem?_set_ne hj] at he
      obtain ⟨v, hv', r⟩ := s.slot j e he
      refine ⟨v, hv', ?_⟩
      cases e with
      | sh d => exact Dn.mono (Le.new h0) _ _ r
      | bg => exact r
      | ow d1 =>
        obtain ⟨q, ws, es, rfl, h1, h2, h3, h4, h5, h6⟩ := r
        have : q ≠ p := fun z => s.own i j _ d1 hj hi he (by rw [hv, hv', z])
        exact ⟨q, ws, es, rfl, h1, h2, by rw [upd_ne this]; exact h3, h4, h5, DnAll.mono (Le.new h0) _ _ h6⟩
  · have n1 : i ≠ j := fun z => by subst z; rw [List.getElem?_set_self hil] at hj; cases hj
    have n2 : i ≠ k := fun z => by subst z; rw [List.getElem?_set_self hil] at hk; cases hk
    rw [List.getElem?_set_ne n1] at hj
    rw [List.getElem?_set_ne n2] at hk
    exact s.own j k d1 d2 hjk hj hk
end
def frz1 (ρ : Env) (i : Nat) : Env := match ρ[i]? with
  | some (some (.ow d)) => ρ.set i (some (.sh d))
  | _ => ρ
def frzE (ρ : Env) : List Nat → Env
  | [] => ρ
  | i :: is => frzE (frz1 ρ i) is
theorem SR.frz1 {b : Addr × Addr} {He H0e H0 H : Hp} {σ : L2.St} {ρ : Env} {B : Bag} (s : SR b He H0e σ ρ B H0 H) (i : Nat) : ∃ H0', Le H0 H0' ∧ SR b He H0e σ (Mr.frz1 ρ i) B H0' H := by
  unfold Mr.frz1
  split
  · rename_i d h; exact s.frzS h
  · exact ⟨H0, Le.refl _, s⟩
theorem SR.frzE {b : Addr × Addr} {He H0e H : Hp} {σ : L2.St} {B : Bag} : ∀ (is : List Nat) {ρ : Env} {H0 : Hp}, SR b He H0e σ ρ B H0 H → ∃ H0', Le H0 H0' ∧ SR b He H0e σ (Mr.frzE ρ is) B H0' H
  | [], ρ, H0, s => ⟨H0, Le.refl _, s⟩
  | i :: is, ρ, H0, s => by
    obtain ⟨H1, l1, s1⟩ := s.frz1 i
    obtain ⟨H2, l2, s2⟩ := SR.frzE is s1
    exact ⟨H2, l1.trans l2, s2⟩
/-- the slots are shared from here on -/
def sFrz (is : List Nat) (m : SM) : SM := fun ρ B => m (frzE ρ is) B
def scalD : PyData → Bool
  | .none => true
  | .bool _ => true
  | .int _ => true
  | .str _ => true
  | _ => false
/-- the slots are read as shared for an expression that hands back a scalar -/
def eScal (is : List Nat) (m : EM) : EM := fun ρ B => (m (frzE ρ is) B).bind fun e B1 => match e with
  | .sh d => if scalD d then .ok (.sh d) B1 else .bad
  | _ => .bad
def tScal (is : List Nat) (m : TM) : TM := fun ρ B => m (frzE ρ is) B
def sApp (i : Nat) (m : EM) : SM := fun ρ B => (m ρ B).bind fun e B1 => match e.data, ρ[i]? with
  | some d, some (some (.ow (.list ds))) => if ds.length < sizeLine then .ok (.nx (ρ.set i (some (.ow (.list (ds ++ [d])))))) B1 else .bad
  | _, _ => .bad
section
variable {X : Cx} {a c e tg : Expr} {es : List Expr} {m m1 m2 : EM} {pos : Pos}
theorem ms_frz {st : Stmt} {m : SM} (is : List Nat) (h : MS X st m) : MS X st (sFrz is m) := PS.weak h fun D σ H ⟨b, He, H0e, ρ, B, H0, s, q⟩ => by
  obtain ⟨H0', l, s'⟩ := s.frzE is
  exact ⟨b, He, H0e, _, B, H0', s', q.mono l⟩
theorem Dn.scal {H0 H0' : Hp} {v : V} {d : PyData} (r : Dn H0 v d) (h : scalD d = true) : Dn H0' v d := by
  cases d with
  | none => cases r; exact .non
  | bool b => cases r; exact .bl b
  | int b => cases r; exact .int b
  | str b => cases r; exact .str b
  | _ => cases h
theorem SR.scal {b : Addr × Addr} {He H0e H0 H H0f H' H0' : Hp} {σ : L2.St} {ρ ρ' : Env} {B B' : Bag} (s : SR b He H0e σ ρ B H0 H) (lf : Le H0 H0f) (g : Gr b H H0f H' H0') (hr : HR b B' H0' H') (hc : B'.cells = B.cells) : Gr b H H0 H' H0 ∧ SR b He H0e σ ρ B' H0 H' := by
  have g' : Gr b H H0 H' H0 := ⟨g.kp, Le.refl _, fun _ _ _ n => n, s.hr.fb⟩
  refine ⟨g', s.more g' ⟨(lf.trans g.l0).trans hr.le, s.hr.fb, ⟨hr.bag.1, ?_⟩, hr.ok⟩⟩
  rw [hc]; exact s.hr.bag.2
theorem SR.cells {b : Addr × Addr} {He H0e H0 H H0f H' H0' : Hp} {σ : L2.St} {ρ : Env} {B B' : Bag} (s : SR b He H0e σ ρ B H0 H) (lf : Le H0 H0') (hr : HR b B' H0' H') : B'.cells = B.cells := by
  have h1 := lf _ _ s.hr.bag.2
  rw [hr.bag.2] at h1
  have h2 := HO.lst.inj (Option.some.inj h1)
  exact (List.map_inj_right (fun _ _ z => V.int.inj z)).mp h2
theorem mt_scal {t : TM} (is : List Nat) (h : MT X a t) : MT X a (tScal is t) := PT.weak h fun σ H Q ⟨b, He, H0e, ρ, B, H0, s, q⟩ => by
  obtain ⟨H0f, lf, sf⟩ := s.frzE is
  refine ⟨b, He, H0e, _, B, H0f, sf, ?_⟩
  unfold tScal at q
  cases h1 : t (frzE ρ is) B with
  | bad => rw [h1] at q; exact q.elim
  | ok k B1 =>
    rw [h1] at q
    intro H0' H' g' s'
    obtain ⟨g2, s2⟩ := s.scal (ρ' := ρ) lf g' s'.hr (s.cells (H0f := H0f) (lf.trans g'.l0) s'.hr)
    exact q H0 H' g2 s2
theorem me_scal (is : List Nat) (h : ME X a m) : ME X a (eScal is m) := PE.weak h fun σ H Q ⟨b, He, H0e, ρ, B, H0, s, q⟩ => by
  obtain ⟨H0f, lf, sf⟩ := s.frzE is
  refine ⟨b, He, H0e, _, B, H0f, sf, ?_⟩
  unfold eScal at q
  cases h1 : m (frzE ρ is) B with
  | bad => rw [h1] at q; exact q.elim
  | ok e B1 =>
    rw [h1, bind_ok] at q
    intro v H0' H' g' s' r
    obtain ⟨g2, s2⟩ := s.scal (ρ' := ρ) lf g' s'.hr (s.cells (H0f := H0f) (lf.trans g'.l0) s'.hr)
    cases e with
    | ow d => exact q.elim
    | bg => exact q.elim
    | sh d =>
      by_cases hd : scalD d = true
      · simp only [if_pos hd] at q
        exact q v H0 H' g2 s2 (Dn.scal r hd)
      · simp only [hd] at q; exact q.elim
theorem ms_app {i : Nat} {x : Str} {xp apos cpos : Pos} (hx : PE X (.Name x xp) (tVar i)) (he : ME X e m)
    (hbase : attributeBase (.Name x xp) "append" X.env (eval (.Name x xp) X.env) = eval (.Name x xp) X.env := by rfl)
    (hfew : ((backTo cpos (starEach [e] X.env)).all (fun x => !x.1) && (backToKw cpos (keywordEach [] X.env)).all (fun x => x.1.isSome)
      && decide ([e].length + ([] : List Keyword).length + (if ([] : List Keyword).isEmpty then 0 else 1) < 30)) = true := by rfl)
    (hline : (apos.endLine == cpos.line) = true := by rfl) (hs : starEach [e] X.env = (false, eval e X.env) :: starEach [] X.env := by rfl) (hplain : (backTo cpos (starEach [] X.env)).any (·.1) = false := by rfl)
    (hsw : swapsWith (.Call (.Attribute (.Name x xp) "append" apos) [e] [] cpos) none pos.line X.env = pure false := by rfl) :
    MS X (.Expr (.Call (.Attribute (.Name x xp) "append" apos) [e] [] cpos) pos) (sApp i m) :=
  PS.weak (ps_expr (pe_bm PySem.F.plainAttrs_list PySem.F.slot_list_append PySem.F.type_list_append mt_append hx (pa_cons he pa_nil hs) hbase hfew hline hs hplain) hsw) fun D σ H ⟨b, He, H0e, ρ, B, H0, s, q⟩ => by
    unfold sApp at q
    cases h1 : m ρ B with
    | bad => rw [h1] at q; exact q.elim
    | ok e1 B1 =>
      rw [h1, bind_ok] at q
      cases hd : e1.data with
      | none => simp only [hd] at q; exact q.elim
      | some d =>
        simp only [hd] at q
        split at q
        · rename_i d' ds hd' hi
          cases hd'
          obtain ⟨v, hv, p, vs, ds', rfl, nb, hpe, h0, e2, hH, al⟩ := s.slot i _ hi
          cases e2
          by_cases hl : ds.length < sizeLine
          · simp only [if_pos hl] at q
            refine ⟨_, hv, .inl ⟨rfl, vs, .inl (.inl hH)⟩, rdE_at s h1 fun y H01 H1 g1 s1 r1 => ?_⟩
            obtain ⟨H02, g2, s2, D1⟩ := s.data g1 s1 r1 hd
            obtain ⟨v', hv', p', vs', ds'', e3, _, _, _, e4, hH', al'⟩ := s2.slot i _ hi
            rw [hv] at hv'; cases hv'; cases e3; cases e4
            exact ⟨p, vs', y, rfl, rfl, hH', by rw [al'.length]; exact hl, q σ H02 _ g2.l0 (s2.updO hi hv (al'.append (.cons D1 .nil)))⟩
          · simp only [if_neg hl] at q; exact q.elim
        · exact q.elim
end
end Mr
namespace Mr
open PySem PySem.Spec PyProof.Rows L2

/-! ### data are read off the heap -/
section
variable {X : Cx} {pins : List (Addr × Obj)} {σ : L2.St} {H H0 : Hp} {s : Shared}
theorem keys_read {P : Program} {w : World} {h : Heap} : ∀ (kvs : List (Key × V)) (ds : List (PyData × PyData)) (es : List DictEntry) (vs : List (Key × Value)), DnKv H kvs ds → KV kvs vs → Pairs (mixKind P w) es vs → ReadsAll h (es.map (·.key)) (ds.map (·.1)) []
  | [], _, _, _, h1, h2, h3 => by cases h1; cases h2; cases h3; exact .nil
  | _ :: kvs, _, _, _, h1, h2, h3 => by
    cases h1 with
    | cons a r =>
      cases h2 with
      | cons b r2 =>
        cases h3 with
        | cons c d r3 =>
          rename_i k v dd ds vv ws e es
          have e1 := b.1
          have c' : keyIs vv.1 e.key = true := c
          rw [← e1] at c'
          have := keys_read (P := P) (w := w) (h := h) kvs ds es ws r r2 r3
          refine ReadsAll.cons (as := []) (bs := []) ?_ this
          rcases keyIs_shape c' with ⟨i, t, e2, e3⟩ | ⟨x, t, e2, e3⟩
          · have e2' : k = Sum.inl i := e2
            subst e2'; show Reads h e.key _ _; rw [e3]; exact .int i t
          · have e2' : k = Sum.inr x := e2
            subst e2'; show Reads h e.key _ _; rw [e3]; exact .str x t
mutual
theorem Dn.reads (I : Inv X pins σ H s) : ∀ (d : PyData) (v : V) (u : Value), Dn H v d → RelV v u → ∃ as, Reads s.heap u d as ∧ ∀ a ∈ as, ∃ o, H a = some o
  | .none, _, _, h, r => by
    cases h; cases r; exact ⟨_, Reads.none, by simp⟩
  | .bool b, _, _, h, r => by
    cases h; cases r; exact ⟨_, Reads.bool b, by simp⟩
  | .int i, _, _, h, r => by
    cases h; obtain ⟨t, rfl⟩ := r; exact ⟨_, Reads.int i t, by simp⟩
  | .str x, _, _, h, r => by
    cases h; obtain ⟨t, rfl⟩ := r; exact ⟨_, Reads.str x t, by simp⟩
  | .list ds, _, _, h, r => by
    cases h with
    | lst hs ha =>
      cases r
      obtain ⟨hz, its, n, rv, ho⟩ := I.hok _ _ hs
      obtain ⟨as, hr, hn⟩ := DnAll.reads I ds _ its ha rv
      refine ⟨_, Reads.list ho rfl rfl (by simpa using hr), fun a z => ?_⟩
      rcases List.mem_cons.mp z with z | z
      · rw [z]; exact ⟨_, hs⟩
      · exact hn a z
  | .tuple ds, _, _, h, r => by
    cases h with
    | tup hs ha =>
      cases r
      obtain ⟨hz, its, rv, o, ho, hc, n, hd⟩ := I.hok _ _ hs
      obtain ⟨as, hr, hn⟩ := DnAll.reads I ds _ its ha rv
      exact ⟨_, Reads.tuple ho hc hd (by simpa using hr), hn⟩
  | .dict ds, _, _, h, r => by
    cases h with
    | dct hs ha =>
      cases r
      obtain ⟨hz, hsys, vs, hkv, o, es, ep, ho, hex, hd, hk, hp, hnd⟩ := I.hok _ _ hs
      obtain ⟨as, hr, hn⟩ := DnKv.reads I ds _ es.toList vs ha hkv hp
      refine ⟨_, Reads.dict ho hex.1 hd (keys_read _ _ _ _ ha hkv hp) hr, fun a z => ?_⟩
      simp only [List.mem_append, List.mem_cons, List.not_mem_nil, or_false] at z
      rcases z with z | z
      · rw [z]; exact ⟨_, hs⟩
      · exact hn a z
theorem DnAll.reads (I : Inv X pins σ H s) : ∀ (ds : List PyData) (vs : List V) (us : List Value), DnAll H vs ds → Vals vs us → ∃ as, ReadsAll s.heap us ds as ∧ ∀ a ∈ as, ∃ o, H a = some o
  | [], _, _, h, r => by
    cases h; cases r; exact ⟨_, ReadsAll.nil, by simp⟩
  | d :: ds, _, _, h, r => by
    cases h with
    | cons h1 h2 =>
      cases r with
      | cons r1 r2 =>
        obtain ⟨as, q1, n1⟩ := Dn.reads I d _ _ h1 r1
        obtain ⟨bs, q2, n2⟩ := DnAll.reads I ds _ _ h2 r2
        exact ⟨_, ReadsAll.cons q1 q2, fun a z => (List.mem_append.mp z).elim (n1 a) (n2 a)⟩
theorem DnKv.reads (I : Inv X pins σ H s) : ∀ (ds : List (PyData × PyData)) (kvs : List (Key × V)) (es : List DictEntry) (vs : List (Key × Value)), DnKv H kvs ds → KV kvs vs → Pairs (mixKind X.prog X.w) es vs → ∃ as, ReadsAll s.heap (es.map (·.val)) (ds.map (·.2)) as ∧ ∀ a ∈ as, ∃ o, H a = some o
  | [], _, _, _, h, r, p => by
    cases h; cases r; cases p; exact ⟨_, ReadsAll.nil, by simp⟩
  | (_, d) :: ds, _, _, _, h, r, p => by
    cases h with
    | cons h1 h2 =>
      cases r with
      | cons r1 r2 =>
        cases p with
        | cons c e p2 =>
          obtain ⟨as, q1, n1⟩ := Dn.reads I d _ _ h1 r1.2
          obtain ⟨bs, q2, n2⟩ := DnKv.reads I ds _ _ _ h2 r2 p2
          exact ⟨_, ReadsAll.cons (show Reads s.heap _ _ _ by dsimp only; rw [e]; exact q1) q2, fun a z => (List.mem_append.mp z).elim (n1 a) (n2 a)⟩
end
end
end Mr
namespace Mr
open PySem PySem.Spec PyProof.Rows L2
section
variable {X : Cx}
def shI (i : Int) : Option EV := some (.sh (.int i))
def shB (k : Bool) : Option EV := some (.sh (.bool k))
def shS (x : Str) : Option EV := some (.sh (.str x))
theorem nr_int {H0 H : Hp} {i : Int} : NewRes H0 H (.int i) H (.sh (.int i)) := .inl ⟨rfl, .int i⟩
theorem nr_bl {H0 H : Hp} {i : Bool} : NewRes H0 H (.bl i) H (.sh (.bool i)) := .inl ⟨rfl, .bl i⟩
theorem nr_str {H0 H : Hp} {i : Str} : NewRes H0 H (.str i) H (.sh (.str i)) := .inl ⟨rfl, .str i⟩
/-! ### arithmetic -/
def gAdd : PyData → PyData → Option EV
  | .int i, .int j => some (.sh (.int (i + j)))
  | .str x, .str y => if x.length + y.length ≤ sizeLine then some (.sh (.str (x ++ y))) else none
  | .list xs, .list ys => if xs.length + ys.length ≤ sizeLine then some (.ow (.list (xs ++ ys))) else none
  | _, _ => none
theorem op_addM : OpR X (binaryOp .Add) (rD2 gAdd) := by
  intro pins s σ H x y v u Q I rx ry ⟨H0, d1, d2, e, l, r1, r2, hg, q⟩
  cases d1 with
  | int i =>
    cases d2 with
    | int j => cases hg; cases r1; cases r2; exact op_add pins s σ H _ _ v u Q I rx ry ⟨i, j, rfl, rfl, q _ _ nr_int⟩
    | _ => cases hg
  | str a =>
    cases d2 with
    | str b =>
      simp only [gAdd] at hg
      split at hg
      · cases hg; cases r1; cases r2
        exact op_add_str pins s σ H _ _ v u Q I rx ry ⟨a, b, rfl, rfl, by assumption, q _ _ nr_str⟩
      · cases hg
    | _ => cases hg
  | list xs =>
    cases d2 with
    | list ys =>
      simp only [gAdd] at hg
      split at hg
      · cases hg
        obtain ⟨a1, zs, rfl, ha, al⟩ := r1.lst_inv
        obtain ⟨a2, ws, rfl, ha2, al2⟩ := r2.lst_inv
        exact op_cat pins s σ H _ _ v u Q I rx ry ⟨a1, a2, zs, ws, rfl, rfl, l _ _ ha, l _ _ ha2, by rw [al.length, al2.length]; assumption, fun p hp => q _ _ ⟨p, _, _, rfl, rfl, hp, rfl, al.append al2⟩⟩
      · cases hg
    | _ => cases hg
  | _ => cases hg
def gSub : PyData → PyData → Option EV
  | .int i, .int j => some (.sh (.int (i - j)))
  | _, _ => none
theorem op_subM : OpR X (binaryOp .Sub) (rD2 gSub) := by
  intro pins s σ H x y v u Q I rx ry ⟨H0, d1, d2, e, l, r1, r2, hg, q⟩
  cases d1 with
  | int i =>
    cases d2 with
    | int j => cases hg; cases r1; cases r2; exact op_sub pins s σ H _ _ v u Q I rx ry ⟨i, j, rfl, rfl, q _ _ nr_int⟩
    | _ => cases hg
  | _ => cases hg
/-- great numbers: below 2 ^ 400000 each -/
def gMul : PyData → PyData → Option EV
  | .int i, .int j => if (-(2 ^ 64) < i ∧ i < 2 ^ 64) ∨ (-(2 ^ 64) < j ∧ j < 2 ^ 64) then some (.sh (.int (i * j))) else if i.natAbs < 2 ^ 10000 ∧ j.natAbs < 2 ^ 10000 then some (.sh (.int (i * j))) else none
  | .list xs, .int k => if 0 ≤ k ∧ k < 2 ^ 63 ∧ xs.length * k.toNat ≤ sizeLine then some (.ow (.list (List.replicate k.toNat xs).flatten)) else none
  | _, _ => none
theorem DnAll.rep {H : Hp} {vs : List V} {ds : List PyData} (h : DnAll H vs ds) : ∀ n : Nat, DnAll H (List.replicate n vs).flatten (List.replicate n ds).flatten
  | 0 => .nil
  | n + 1 => by simp only [List.replicate_succ, List.flatten_cons]; exact h.append (h.rep n)
theorem op_mulM : OpR X (binaryOp .Mult) (rD2 gMul) := by
  intro pins s σ H x y v u Q I rx ry ⟨H0, d1, d2, e, l, r1, r2, hg, q⟩
  cases d1 with
  | int i =>
    cases d2 with
    | int j =>
      simp only [gMul] at hg
      split at hg
      · cases hg; cases r1; cases r2; exact op_mul pins s σ H _ _ v u Q I rx ry ⟨i, j, rfl, rfl, by assumption, q _ _ nr_int⟩
      · split at hg
        · rename_i hh; cases hg; cases r1; cases r2; exact op_mulW pins s σ H _ _ v u Q I rx ry ⟨i, j, rfl, rfl, wide_mul hh.1 hh.2 (by decide) (by decide) (by decide), q _ _ nr_int⟩
        · cases hg
    | _ => cases hg
  | list xs =>
    cases d2 with
    | int k =>
      simp only [gMul] at hg
      split at hg
      · rename_i hh
        cases hg; cases r2
        obtain ⟨a1, zs, rfl, ha, al⟩ := r1.lst_inv
        exact op_rep pins s σ H _ _ v u Q I rx ry ⟨a1, k, zs, rfl, rfl, l _ _ ha, by omega, hh.2.1, by rw [al.length]; exact hh.2.2, fun p hp => q _ _ ⟨p, _, _, rfl, rfl, hp, rfl, al.rep _⟩⟩
      · cases hg
    | _ => cases hg
  | _ => cases hg
def gMod : PyData → PyData → Option EV
  | .int i, .int j => if 0 < j then some (.sh (.int (i % j))) else none
  | _, _ => none
theorem op_modM : OpR X (binaryOp .Mod) (rD2 gMod) := by
  intro pins s σ H x y v u Q I rx ry ⟨H0, d1, d2, e, l, r1, r2, hg, q⟩
  cases d1 with
  | int i =>
    cases d2 with
    | int j =>
      simp only [gMod] at hg
      split at hg
      · cases hg; cases r1; cases r2; exact op_mod pins s σ H _ _ v u Q I rx ry ⟨i, j, rfl, rfl, by assumption, q _ _ nr_int⟩
      · cases hg
    | _ => cases hg
  | _ => cases hg
def gFdiv : PyData → PyData → Option EV
  | .int i, .int j => if 0 < j ∧ j.natAbs < 2 ^ 9000 then some (.sh (.int (i / j))) else none
  | _, _ => none
theorem op_fdivM : OpR X (binaryOp .FloorDiv) (rD2 gFdiv) := by
  intro pins s σ H x y v u Q I rx ry ⟨H0, d1, d2, e, l, r1, r2, hg, q⟩
  cases d1 with
  | int i =>
    cases d2 with
    | int j =>
      simp only [gFdiv] at hg
      split at hg
      · rename_i hh; cases hg; cases r1; cases r2; exact op_fdivW pins s σ H _ _ v u Q I rx ry ⟨i, j, rfl, rfl, wide_div hh.1 hh.2 (by decide) (by decide), q _ _ nr_int⟩
      · cases hg
    | _ => cases hg
  | _ => cases hg
/-! ### comparisons -/
def okD (d : PyData) : Bool := d.plain && decide (d.depth ≤ 60)
def gEq (d1 d2 : PyData) : Option EV := if okD d1 && okD d2 then some (.sh (.bool (PyData.eqv d1 d2))) else none
def gNe (d1 d2 : PyData) : Option EV := if okD d1 && okD d2 then some (.sh (.bool (!PyData.eqv d1 d2))) else none
theorem okD2 {d1 d2 : PyData} (h : (okD d1 && okD d2) = true) : d1.plain = true ∧ d2.plain = true ∧ d1.depth ≤ 60 ∧ d2.depth ≤ 60 := by
  simp only [okD, Bool.and_eq_true, decide_eq_true_eq] at h
  exact ⟨h.1.1, h.2.1, h.1.2, h.2.2⟩
theorem op_eqM (hu : X.A.units + 64 < cLine) : OpR X (compareOp .Eq) (rD2 gEq) := by
  intro pins s σ H x y v u Q I rx ry ⟨H0, d1, d2, e, l, r1, r2, hg, q⟩
  unfold gEq at hg
  split at hg
  · rename_i h
    cases hg
    obtain ⟨p1, p2, e1, e2⟩ := okD2 h
    obtain ⟨as, R1, _⟩ := Dn.reads I d1 x v (Dn.mono l _ _ r1) rx
    obtain ⟨bs, R2, _⟩ := Dn.reads I d2 y u (Dn.mono l _ _ r2) ry
    exact SeqAt.eq_plain R1 R2 p1 p2 (by omega) ⟨.bl _, H, I, rfl, q _ _ nr_bl⟩
  · cases hg
theorem op_neM (hu : X.A.units + 64 < cLine) : OpR X (compareOp .NotEq) (rD2 gNe) := by
  intro pins s σ H x y v u Q I rx ry ⟨H0, d1, d2, e, l, r1, r2, hg, q⟩
  unfold gNe at hg
  split at hg
  · rename_i h
    cases hg
    obtain ⟨p1, p2, e1, e2⟩ := okD2 h
    obtain ⟨as, R1, _⟩ := Dn.reads I d1 x v (Dn.mono l _ _ r1) rx
    obtain ⟨bs, R2, _⟩ := Dn.reads I d2 y u (Dn.mono l _ _ r2) ry
    exact SeqAt.ne_plain R1 R2 p1 p2 (by omega) ⟨.bl _, H, I, rfl, q _ _ nr_bl⟩
  · cases hg
def isNone : PyData → Bool
  | .none => true
  | _ => false
def okC (d1 d2 : PyData) : Bool := PySem.W.alike d1 d2 && !isNone d1 && decide (d1.depth ≤ 60)
theorem okC_ok {d1 d2 : PyData} (h : okC d1 d2 = true) : PySem.W.alike d1 d2 = true ∧ d1 ≠ .none ∧ d1.depth ≤ 60 := by
  simp only [okC, Bool.and_eq_true, decide_eq_true_eq] at h
  refine ⟨h.1.1, ?_, h.2⟩
  intro z; subst z; simp [isNone] at h
def gLt (d1 d2 : PyData) : Option EV := if okC d1 d2 then some (.sh (.bool (PySem.W.dataLt d1 d2))) else none
def gLe (d1 d2 : PyData) : Option EV := if okC d1 d2 then some (.sh (.bool (!PySem.W.dataLt d2 d1))) else none
def gGt (d1 d2 : PyData) : Option EV := if okC d1 d2 then some (.sh (.bool (PySem.W.dataLt d2 d1))) else none
def gGe (d1 d2 : PyData) : Option EV := if okC d1 d2 then some (.sh (.bool (!PySem.W.dataLt d1 d2))) else none
theorem op_ltM (hu : X.A.units + 64 < cLine) : OpR X (compareOp .Lt) (rD2 gLt) := by
  intro pins s σ H x y v u Q I rx ry ⟨H0, d1, d2, e, l, r1, r2, hg, q⟩
  unfold gLt at hg
  split at hg
  · rename_i h
    cases hg
    obtain ⟨p1, p2, e1⟩ := okC_ok h
    obtain ⟨as, R1, _⟩ := Dn.reads I d1 x v (Dn.mono l _ _ r1) rx
    obtain ⟨bs, R2, _⟩ := Dn.reads I d2 y u (Dn.mono l _ _ r2) ry
    exact PySem.W.lt_data R1 R2 p1 p2 (by omega) ⟨.bl _, H, I, rfl, q _ _ nr_bl⟩
  · cases hg
theorem op_leM (hu : X.A.units + 64 < cLine) : OpR X (compareOp .LtE) (rD2 gLe) := by
  intro pins s σ H x y v u Q I rx ry ⟨H0, d1, d2, e, l, r1, r2, hg, q⟩
  unfold gLe at hg
  split at hg
  · rename_i h
    cases hg
    obtain ⟨p1, p2, e1⟩ := okC_ok h
    obtain ⟨as, R1, _⟩ := Dn.reads I d1 x v (Dn.mono l _ _ r1) rx
    obtain ⟨bs, R2, _⟩ := Dn.reads I d2 y u (Dn.mono l _ _ r2) ry
    exact PySem.W.le_data R1 R2 p1 p2 (by omega) ⟨.bl _, H, I, rfl, q _ _ nr_bl⟩
  · cases hg
theorem op_gtM (hu : X.A.units + 64 < cLine) : OpR X (compareOp .Gt) (rD2 gGt) := by
  intro pins s σ H x y v u Q I rx ry ⟨H0, d1, d2, e, l, r1, r2, hg, q⟩
  unfold gGt at hg
  split at hg
  · rename_i h
    cases hg
    obtain ⟨p1, p2, e1⟩ := okC_ok h
    obtain ⟨as, R1, _⟩ := Dn.reads I d1 x v (Dn.mono l _ _ r1) rx
    obtain ⟨bs, R2, _⟩ := Dn.reads I d2 y u (Dn.mono l _ _ r2) ry
    exact PySem.W.gt_data R1 R2 p1 p2 (by omega) ⟨.bl _, H, I, rfl, q _ _ nr_bl⟩
  · cases hg
theorem op_geM (hu : X.A.units + 64 < cLine) : OpR X (compareOp .GtE) (rD2 gGe) := by
  intro pins s σ H x y v u Q I rx ry ⟨H0, d1, d2, e, l, r1, r2, hg, q⟩
  unfold gGe at hg
  split at hg
  · rename_i h
    cases hg
    obtain ⟨p1, p2, e1⟩ := okC_ok h
    obtain ⟨as, R1, _⟩ := Dn.reads I d1 x v (Dn.mono l _ _ r1) rx
    obtain ⟨bs, R2, _⟩ := Dn.reads I d2 y u (Dn.mono l _ _ r2) ry
    exact PySem.W.ge_data R1 R2 p1 p2 (by omega) ⟨.bl _, H, I, rfl, q _ _ nr_bl⟩
  · cases hg
/-! ### items and slices -/
def gIx : PyData → PyData → Option EV
  | .list xs, .int i => (atI xs i).map .sh
  | .tuple xs, .int i => (atI xs i).map .sh
  | .str z, .int i => if z.length ≤ sizeLine then (atI z.cps.toList i).map fun c => .sh (.str ⟨#[c]⟩) else none
  | _, _ => none
theorem DnAll.at {H : Hp} {vs : List V} {ds : List PyData} {i : Int} {d : PyData} (h : DnAll H vs ds) (e : atI ds i = some d) : ∃ v, atI vs i = some v ∧ Dn H v d := by
  unfold atI at e ⊢
  rw [h.length]
  cases hj : ixN ds.length i with
  | none => rw [hj] at e; cases e
  | some j => rw [hj] at e; exact h.get e
theorem ix_M : IxR X (rD2 gIx) := by
  intro value slice pins s σ H x y v u Q I rx ry ⟨H0, d1, d2, e, l, r1, r2, hg, q⟩ hsub
  cases d1 with
  | list xs =>
    cases d2 with
    | int i =>
      cases r2
      simp only [gIx, Option.map_eq_some_iff] at hg
      obtain ⟨d, hd, rfl⟩ := hg
      obtain ⟨a1, zs, rfl, ha, al⟩ := r1.lst_inv
      obtain ⟨z, hz, rz⟩ := al.at hd
      refine ix_list value slice pins s σ H _ _ v u Q I rx ry ⟨a1, zs, i, z, rfl, rfl, .inl (.inl (l _ _ ha)), hz, q _ _ (.inl ⟨rfl, rz⟩)⟩ hsub
    | _ => cases hg
  | tuple xs =>
    cases d2 with
    | int i =>
      cases r2
      simp only [gIx, Option.map_eq_some_iff] at hg
      obtain ⟨d, hd, rfl⟩ := hg
      obtain ⟨a1, zs, rfl, ha, al⟩ := r1.tup_inv
      obtain ⟨z, hz, rz⟩ := al.at hd
      refine ix_tup value slice pins s σ H _ _ v u Q I rx ry ⟨a1, zs, i, z, rfl, rfl, .inl (.inl (l _ _ ha)), hz, q _ _ (.inl ⟨rfl, rz⟩)⟩ hsub
    | _ => cases hg
  | str z =>
    cases d2 with
    | int i =>
      cases r1; cases r2
      simp only [gIx] at hg
      split at hg
      · simp only [Option.map_eq_some_iff] at hg
        obtain ⟨c, hc, rfl⟩ := hg
        refine ix_str value slice pins s σ H _ _ v u Q I rx ry ⟨z, i, c, rfl, rfl, by assumption, hc, q _ _ nr_str⟩ hsub
      · cases hg
    | _ => cases hg
  | _ => cases hg
theorem me_ix {a c : Expr} {m1 m2 : EM} {pos : Pos} (ha : ME X a m1) (hb : ME X c m2) (hs : PlainIx c := by intro _ _; rfl) : ME X (.Subscript a c pos) (eBin gIx m1 m2) := PE.weak (pe_ix ix_M ha hb hs) fun _ _ _ => bin_rd
/-- a slice's part -/
abbrev OM := Env → Bag → Out (Option Int)
def rdO (m : OM) : TO := fun σ H Q => ∃ b He H0e ρ B H0, SR b He H0e σ ρ B H0 H ∧ match m ρ B with
  | .ok c B' => ∀ H0' H', Gr b H H0 H' H0' → SR b He H0e σ ρ B' H0' H' → Q c H'
  | .bad => False
def oNone : OM := fun _ B => .ok none B
def oSome (m : EM) : OM := fun ρ B => (m ρ B).bind fun e B1 => match e with
  | .sh (.int i) => .ok (some i) B1
  | _ => .bad
abbrev MO (X : Cx) (e : Option Expr) (m : OM) : Prop := PO X e (rdO m)
theorem mo_none : MO X none oNone := by
  have := po_none (X := X)
  exact ⟨fun pins s0 σ H Q I ⟨b, He, H0e, ρ, B, H0, s, q⟩ => this.run pins s0 σ H Q I (q H0 H (Gr.refl s.hr.fb) s)⟩
theorem mo_some {e : Expr} {m : EM} (h : ME X e m) : MO X (some e) (oSome m) := by
  have := po_some h
  refine ⟨fun pins s0 σ H Q I ⟨b, He, H0e, ρ, B, H0, s, q⟩ => this.run pins s0 σ H Q I ?_⟩
  unfold oSome at q
  cases h1 : m ρ B with
  | bad => rw [h1] at q; exact q.elim
  | ok e1 B1 =>
    rw [h1, bind_ok] at q
    refine rdE_at s h1 fun v H01 H1 g1 s1 r1 => ?_
    cases e1 with
    | ow d => exact q.elim
    | bg => exact q.elim
    | sh d =>
      cases d with
      | int k => exact ⟨k, Dn.int_inv r1, q H01 H1 g1 s1⟩
      | _ => exact q.elim
def cutL {α : Type} (xs : List α) (lo hi : Option Int) : List α := (xs.drop (HT.sIx xs.length 0 lo)).take (HT.sIx xs.length xs.length hi - HT.sIx xs.length 0 lo)
def gSl (lo hi : Option Int) : PyData → Option EV
  | .list xs => some (.ow (.list (cutL xs lo hi)))
  | .str z => if z.length ≤ sizeLine then some (.sh (.str (cutS z lo hi))) else none
  | _ => none
def eSl (m : EM) (ol oh : OM) : EM := fun ρ B => (m ρ B).bind fun e B1 => (ol ρ B1).bind fun l B2 => (oh ρ B2).bind fun h B3 => liftO (e.data.bind (gSl l h)) B3
theorem DnAll.cut {H : Hp} {vs : List V} {ds : List PyData} (h : DnAll H vs ds) (lo hi : Option Int) : DnAll H (cutV vs lo hi) (cutL ds lo hi) := by
  unfold cutV cutL
  rw [h.length]
  exact (h.drop _).take _
theorem me_sl {a : Expr} {lo hi : Option Expr} {m : EM} {ol oh : OM} {pos p2 : Pos} (ha : ME X a m) (hl : MO X lo ol) (hh : MO X hi oh) : ME X (.Subscript a (.Slice lo hi none p2) pos) (eSl m ol oh) := ⟨fun pins s0 σ H Q I ⟨b, He, H0e, ρ, B, H0, s, q⟩ => by
  unfold eSl at q
  cases h1 : m ρ B with
  | bad => rw [h1] at q; exact q.elim
  | ok e1 B1 =>
    rw [h1, bind_ok] at q
    cases h2 : ol ρ B1 with
    | bad => rw [h2] at q; exact q.elim
    | ok l B2 =>
      rw [h2, bind_ok] at q
      cases h3 : oh ρ B2 with
      | bad => rw [h3] at q; exact q.elim
      | ok h B3 =>
        rw [h3, bind_ok] at q
        cases hd1 : e1.data with
        | none => rw [hd1] at q; exact q.elim
        | some d1 =>
          rw [hd1] at q
          have key : ∀ (r : V → Option Int → Option Int → Hp → VK → Prop), SlR X r → (∀ v H02 H3 s', Dn H02 v d1 → HR b B3 H02 H3 → (∀ z H5 e, NewRes H02 H3 z H5 e → gSl l h d1 = some e → s' z H5) → r v l h H3 s') → wpAny (model X.prog X.w) X.A (eval (.Subscript a (.Slice lo hi none p2) pos) X.env) (EP X pins σ Q) X.xe s0 := by
            intro r hr hk
            refine (pe_slice hr ha hl hh).run pins s0 σ H Q I (rdE_at s h1 fun v H01 H1 g1 s1 r1 => ?_)
            obtain ⟨H02, g2, s2, D1⟩ := s.data g1 s1 r1 hd1
            refine ⟨b, He, H0e, ρ, B1, H02, s2, ?_⟩
            rw [h2]
            intro H03 H3 g3 s3
            refine ⟨b, He, H0e, ρ, B2, H03, s3, ?_⟩
            rw [h3]
            intro H04 H4 g4 s4
            refine hk v H04 H4 Q (Dn.mono (g3.trans g4).l0 _ _ D1) s4.hr fun z H5 e n he => ?_
            simp only [Option.bind_some, he, liftO_some] at q
            obtain ⟨H05, g5, s5, r5⟩ := n.ok s4
            have gg := (g2.trans g3).trans g4
            exact q z H05 H5 (gg.trans g5) s5 (r5.back gg)
          cases d1 with
          | list xs =>
            refine key _ sl_list fun v H02 H3 s' D hr n => ?_
            obtain ⟨a1, zs, rfl, ha', al⟩ := D.lst_inv
            exact ⟨a1, zs, rfl, .inl (.inl (hr.le _ _ ha')), fun p hp => n _ _ (.ow (.list (cutL xs l h))) ⟨p, _, _, rfl, rfl, hp, rfl, al.cut l h⟩ rfl⟩
          | str z =>
            by_cases hz : z.length ≤ sizeLine
            · refine key _ sl_str fun v H02 H3 s' D hr n => ?_
              obtain rfl := D.str_inv
              exact ⟨z, rfl, hz, n _ _ _ nr_str (by simp [gSl, hz])⟩
            · simp [gSl, hz] at q
          | _ => exact q.elim⟩
end
end Mr
namespace Mr
open PySem PySem.Spec PyProof.Rows L2

/-! ### defs that are called where nothing is being shown (repr) -/
structure FnG (P : Program) (w : World) (K : PySem.W.Frag) (mg : Str → Option Value) (base : Heap)
    (k : Nat) (f : Addr) (fd : FuncData) (ps : List Str) (sp : Sp) : Prop where
  glen : ∀ xs h q e, sp xs h q e → xs.length = ps.length
  grun : ∀ (A : Around) (out : List PySem.Env) (s : Shared) (h : Hp) (gs : Args) (us : List Value) (xs : List V) (q : VK) (e : XK),
    A.guards = some [] → Room k A → Env0 P w K mg base A out s h → BindsTo s fd gs (ps.zip us) → Vals xs us → sp xs h q e →
    codeAny (model P w) A (.call (.ref f) gs) (CR CX0 out P w h s q e) s
theorem FnG.of_ok {P : Program} {w : World} {K : PySem.W.Frag} {mg : Str → Option Value} {base : Heap}
    {k : Nat} {f : Addr} {fd : FuncData} {ps : List Str} {sp : Sp} (F : FnOk P w K mg base CX0 k f fd ps sp) : FnG P w K mg base k f fd ps sp :=
  ⟨F.len, fun A out s h gs us xs q e _ => F.run A out s h gs us xs q e⟩
theorem FnG.mono {P : Program} {w : World} {K : PySem.W.Frag} {mg : Str → Option Value} {base : Heap}
    {j k : Nat} {f : Addr} {fd : FuncData} {ps : List Str} {sp : Sp} (F : FnG P w K mg base j f fd ps sp) (hjk : j ≤ k) : FnG P w K mg base k f fd ps sp :=
  ⟨F.glen, fun A out s h gs us xs q e g hr => F.grun A out s h gs us xs q e g (hr.mono hjk)⟩
theorem FnG.imp {P : Program} {w : World} {K : PySem.W.Frag} {mg : Str → Option Value} {base : Heap}
    {k : Nat} {f : Addr} {fd : FuncData} {ps : List Str} {sp sp' : Sp} (F : FnG P w K mg base k f fd ps sp) (hi : ∀ xs h q e, sp' xs h q e → sp xs h q e) : FnG P w K mg base k f fd ps sp' :=
  ⟨fun xs h q e z => F.glen xs h q e (hi _ _ _ _ z), fun A out s h gs us xs q e g hr e0 hb r z => F.grun A out s h gs us xs q e g hr e0 hb r (hi _ _ _ _ z)⟩

section
variable {X : Cx} {k : Nat} {f : Addr} {fd : FuncData} {ps : List Str} {sp : Sp}
theorem runG {pins : List (Addr × Obj)} {σ : L2.St} {H : Hp} {s : Shared} {Q : VK} {us : List Value} {vs : List V}
    (F : FnG X.prog X.w X.K X.mg X.base k f fd ps sp) (hgu : X.A.guards = some []) (hr : Room k X.A) (hb : Binds X.K fd ps [])
    (I : Inv X pins σ H s) (r : Vals vs us) (h : sp vs H Q E0) : wpAny (model X.prog X.w) X.A (call (.ref f) us) (EP X pins σ Q) X.xe s := by
  have hlen : us.length = ps.length := by rw [← r.length]; exact F.glen _ _ _ _ h
  have hb' := hb s us I.kIn (by rw [List.append_nil]; exact hlen)
  rw [List.append_nil] at hb'
  have z := F.grun X.A X.stack s H ⟨us, []⟩ us vs Q E0 hgu hr I.env0 hb' r h
  refine wpAny_call (codeAny_mono z fun res s' hq => ?_)
  match res, hq with
  | .error e, hq => exact hq.elim
  | .ok (.ret u), hq => exact I.after hq
theorem pe_callG {x : Str} {e : Expr} {es : List Expr} {t : TA} {p pos : Pos}
    (F : FnG X.prog X.w X.K X.mg X.base k f fd ps sp) (hgu : X.A.guards = some []) (hr : Room k X.A) (hg : Gl X x) (hm : X.mg x = some (.ref f))
    (hk : PySem.W.keepIn X.K (.ref f) = true) (hb : Binds X.K fd ps []) (ha : PA X (e :: es) t)
    (hdb : (x == ("__debug__" : Str)) = false := by decide)
    (he : starEach (e :: es) X.env = (false, eval e X.env) :: starEach es X.env := by rfl)
    (hpl : (backTo pos (starEach es X.env)).any (·.1) = false := by rfl) :
    PE X (.Call (.Name x p) (e :: es) [] pos) (fun σ H Q => t σ H fun vs H1 => sp vs H1 Q E0) :=
  ⟨fun pins s σ H Q I h => wpAny_Call_Name_kw (ld_glob I hg hm
    (PySem.W.callWith_K (h₀ := X.base) I.ok.mod.kin hk (thn (ha.run pos pins s σ H _ I h) fun us s1 hz => by
      obtain ⟨vs, H1, I1, rv, z⟩ := hz
      exact ⟨I1.kIn, runG F hgu hr hb I1 rv z⟩) he hpl) hdb)⟩
theorem pe_callG0 {x : Str} {p pos : Pos}
    (F : FnG X.prog X.w X.K X.mg X.base k f fd ps sp) (hgu : X.A.guards = some []) (hr : Room k X.A) (hg : Gl X x) (hm : X.mg x = some (.ref f))
    (hk : PySem.W.keepIn X.K (.ref f) = true) (hb : Binds X.K fd ps [])
    (hdb : (x == ("__debug__" : Str)) = false := by decide) :
    PE X (.Call (.Name x p) [] [] pos) (fun σ H Q => sp [] H Q E0) :=
  ⟨fun pins s σ H Q I h => wpAny_Call_Name_kw (ld_glob I hg hm
    (PySem.W.callWith_K0 I.kIn hk (runG (us := []) F hgu hr hb I .nil h)) hdb)⟩
end
section
variable {P : Program} {w : World} {K : PySem.W.Frag} {mg : Str → Option Value} {base : Heap}
theorem Fun.okG {x qual : Str} {st : Stmt} {f : Addr} {fd : FuncData} {N ps : List Str} {k : Nat} {sp : Sp} (F : Fun K x qual st f fd) (S : FnScope N ps (defScope st))
    (len : ∀ vs H Q E, sp vs H Q E → vs.length = ps.length)
    (hbody : ∀ (cdv : Value) (A : Around) (out : List PySem.Env) (s : Shared) (H : Hp) (vs : List V) (Q : VK) (E : XK),
      (A.deeper (envOfC qual (defScope st) s.heap.objs.size f cdv)).guards = some [] → Room k (A.deeper (envOfC qual (defScope st) s.heap.objs.size f cdv)) → sp vs H Q E →
      ∃ t, PSs (cxOf CX0 P w K mg base N qual (defScope st) f cdv A out s H E).nox (defBody st) t ∧
        t { nx := fun _ H' => Q .non H', rt := Q } (L2.start N vs) H) : FnG P w K mg base (k + 1) f fd ps sp := by
  obtain ⟨oc, od, kV, doc, pm, an, cdv, ct, osl, rfl, lk, hcd⟩ := F.ex
  refine ⟨len, fun A out s H gs us vs Q E hgu hr e0 hb rv hsp => ?_⟩
  have hlen := len _ _ _ _ hsp
  have hkin : K.In s.heap := e0.mod.kin.keeps fun a o z => (e0.bs a o z).1
  have hlim : s.heap.NoLimit := e0.mod.nolimit.keeps fun a o z => (e0.bs a o z).1
  have hkd : ∀ y ∈ ps.zip us, (defScope st).names.lookup y.1 = some .local ∨
      ((defScope st).names.lookup y.1 = some .cell ∧ ((cellsFrom (s.heap.objs.size + 1) (defScope st).names []).lookup y.1).isSome = true) := by
    intro y hy
    obtain ⟨nm, va⟩ := y
    have hpar := S.par nm (List.of_mem_zip hy).1
    cases hpar with
    | inl z => exact .inl z
    | inr z => exact .inr ⟨z, PySem.W.cellsFrom_some _ _ _ (.inl z)⟩
  refine codeAny_call_function hr.depth (hkin _ _ lk) rfl S.co S.gen rfl (PySem.W.codeRec_of hkin hcd) (hb _ _ _ _ ?_)
  refine wpAny_newFunctionEnv_cells S.kind hkd fun env henv s1 hx => ?_
  subst henv
  refine ⟨hlim.keeps hx.toInCall.keep, codeAny_func ?_⟩
  obtain ⟨t, ht, hq⟩ := hbody cdv A out s H vs Q E hgu (hr.deeper _) hsp
  have I := inv_start (CX := CX0) (E := E) S hr.hd e0 hlen rv hx
  have fin : ∀ {s' : Shared} {σ' : L2.St} {H' : Hp} {v : V} {u : Value}, Inv (cxOf CX0 P w K mg base N qual (defScope st) f cdv A out s H E) [] σ' H' s' → RelV v u → Q v H' → CE out P w H s Q u s' :=
    fun {_ _ H' v _} J r z => ⟨v, H', J.os, J.bare, J.base, J.hok, r, z⟩
  refine wpAny_mono (ht.nox.run [] s1 (L2.start N vs) H _ I hq) (fun fl s' hs => ?_) fun e s' hs => hs
  match fl, hs with
  | .ret u, ⟨v, σ', H', J, r, z⟩ => exact fin J r z
  | .next, ⟨σ', H', J, z⟩ => exact fin (v := V.non) (u := Value.none) J rfl z
  | .brk, ⟨_, _, _, z⟩ => exact False.elim z
  | .cont, ⟨_, _, _, z⟩ => exact False.elim z
end
end Mr
namespace Mr
open PySem PySem.Spec PyProof.Rows L2
/-- a def by its mirror -/
structure FnM (P : Program) (w : World) (K : PySem.W.Frag) (mg : Str → Option Value) (base : Heap) (k : Nat) (x : Str) (n : Nat) (mf : FM) : Prop where
  ex : ∃ f fd ps, FnG P w K mg base k f fd ps (spM n mf) ∧ mg x = some (.ref f) ∧ PySem.W.keepIn K (.ref f) = true ∧ Binds K fd ps []
theorem call_rdG {ms : AM} {mf : FM} {n : Nat} {σ : L2.St} {H : Hp} {Q : VK} (h : rdE (eCall n mf ms) σ H Q) : rdA ms σ H fun vs H1 => spM n mf vs H1 Q E0 := by
  have z := call_rd (E := E0) h
  refine Exists.elim z fun b z => ?_
  obtain ⟨He, H0e, ρ, B, H0, s, q⟩ := z
  refine ⟨b, He, H0e, ρ, B, H0, s, ?_⟩
  cases h1 : ms ρ B with
  | bad => rw [h1] at q; exact q.elim
  | ok es1 B1 =>
    rw [h1] at q
    intro vs H01 H1 g1 s1 r1
    have y := q vs H01 H1 g1 s1 r1
    dsimp only at y
    rwa [List.append_nil] at y
section
variable {X : Cx} {k n : Nat} {x : Str} {mf : FM} {e : Expr} {es : List Expr} {ms : AM} {p pos : Pos}
theorem me_call (G : FnM X.prog X.w X.K X.mg X.base k x n mf) (hgu : X.A.guards = some []) (hr : Room k X.A) (hg : Gl X x) (ha : MA X (e :: es) ms)
    (hdb : (x == ("__debug__" : Str)) = false := by decide) (he : starEach (e :: es) X.env = (false, eval e X.env) :: starEach es X.env := by rfl)
    (hpl : (backTo pos (starEach es X.env)).any (·.1) = false := by rfl) :
    ME X (.Call (.Name x p) (e :: es) [] pos) (eCall n mf ms) := by
  obtain ⟨f, fd, ps, F, hm, hk, hb⟩ := G.ex
  exact PE.weak (pe_callG F hgu hr hg hm hk hb ha hdb he hpl) fun _ _ _ => call_rdG
end
section
variable {P : Program} {w : World} {K : PySem.W.Frag} {mg : Str → Option Value} {base : Heap}
theorem FnM.of {x qual : Str} {st : Stmt} {f : Addr} {fd : FuncData} {N ps : List Str} {k n : Nat} {ms : SM} (F : Fun K x qual st f fd) (hm : mg x = some (.ref f)) (hb : Binds K fd ps []) (S : FnScope N ps (defScope st)) (hn : ps.length = n)
    (walk : ∀ (cdv : Value) (A : Around) (out : List PySem.Env) (s : Shared) (H : Hp) (E : XK), (A.deeper (envOfC qual (defScope st) s.heap.objs.size f cdv)).guards = some [] → Room k (A.deeper (envOfC qual (defScope st) s.heap.objs.size f cdv)) →
      MSs (cxOf CX0 P w K mg base N qual (defScope st) f cdv A out s H E).nox (defBody st) ms) : FnM P w K mg base (k + 1) x n (mfn N.length ms) := by
  refine ⟨f, fd, ps, Fun.okG F S (fun vs H Q E h => ?_) (fun cdv A out s H vs Q E hgu hr h => ?_), hm, F.kp, hb⟩
  · obtain ⟨b, B, H0, es, _, r, hl, _⟩ := h
    rw [r.length, hl, hn]
  · obtain ⟨b, B, H0, es, hr0, r, hl, q⟩ := h
    refine ⟨_, walk cdv A out s H E hgu hr, b, H, H0, _, B, H0, SR.start hr0 r, ?_⟩
    unfold mfn at q
    cases h1 : ms (es.map some ++ List.replicate (N.length - es.length) none) B with
    | bad => rw [h1] at q; exact q.elim
    | ok fl B' =>
      rw [h1] at q
      cases fl with
      | nx ρ' => exact fun σ' H0' H' _ s' => q .non H0' H' s'.gr s'.hr .non
      | bk ρ' => exact q.elim
      | ct ρ' => exact q.elim
      | rt e => exact fun v H0' H' hr' g' r' => q v H0' H' g' hr' r'
theorem FnM.mono {x : Str} {j k n : Nat} {mf : FM} (G : FnM P w K mg base j x n mf) (h : j ≤ k) : FnM P w K mg base k x n mf := by
  obtain ⟨f, fd, ps, F, z⟩ := G.ex
  exact ⟨f, fd, ps, F.mono h, z⟩
/-- a mirror that says less -/
theorem FnM.weak {x : Str} {k n : Nat} {mf mf' : FM} (G : FnM P w K mg base k x n mf) (h : ∀ es B, es.length = n → mf' es B ≠ .bad → mf es B = mf' es B) : FnM P w K mg base k x n mf' := by
  obtain ⟨f, fd, ps, F, z⟩ := G.ex
  refine ⟨f, fd, ps, F.imp fun vs H Q E y => ?_, z⟩
  obtain ⟨b, B, H0, es, hr, r, hl, q⟩ := y
  refine ⟨b, B, H0, es, hr, r, hl, ?_⟩
  rw [h es B hl (fun c => by rw [c] at q; exact q.elim)]
  exact q
end
/-! ### built-in functions -/
section
variable {X : Cx} {x : Str} {e : Expr} {es : List Expr} {ms : AM} {p pos : Pos}
theorem cb_rd {g : List PyData → Option EV} {σ : L2.St} {H : Hp} {Q : VK} (h : rdE (eCB g ms) σ H Q) : tCB (rDA g) (rdA ms) σ H Q := by
  obtain ⟨b, He, H0e, ρ, B, H0, s, q⟩ := h
  unfold eCB at q
  cases h1 : ms ρ B with
  | bad => rw [h1] at q; exact q.elim
  | ok es1 B1 =>
    rw [h1, bind_ok] at q
    refine rdA_at s h1 fun vs H01 H1 g1 s1 r1 => ?_
    cases hd : dataAll es1 with
    | none => rw [hd] at q; exact q.elim
    | some ds =>
      rw [hd] at q
      cases hg : g ds with
      | none => simp [hg] at q
      | some e =>
        simp [hg] at q
        refine ⟨H01, ds, e, s1.hr.le, r1.all hd, hg, fun z H5 n => ?_⟩
        obtain ⟨H05, g5, s5, r5⟩ := n.ok s1
        exact q z H05 H5 (g1.trans g5) s5 (r5.back g1)
theorem me_cb {id : String} {g : List PyData → Option EV} (hc : CallR X (.builtin id) (rDA g)) (hg : Gl X x) (hm : X.mg x = none) (hv : bootBuiltins x = some (.builtin id)) (ha : MA X (e :: es) ms) (hn : x ≠ "__name__" := by decide) (hdb : (x == ("__debug__" : Str)) = false := by decide)
    (he : starEach (e :: es) X.env = (false, eval e X.env) :: starEach es X.env := by rfl) (hpl : (backTo pos (starEach es X.env)).any (·.1) = false := by rfl) : ME X (.Call (.Name x p) (e :: es) [] pos) (eCB g ms) :=
  PE.weak (pe_callB hc hg hm hv ha hn hdb he hpl) fun _ _ _ => cb_rd
theorem me_ct {T : String} {g : List PyData → Option EV} (hc : CallR X (.type T) (rDA g)) (hg : Gl X x) (hm : X.mg x = none) (hv : bootBuiltins x = some (.type T)) (ha : MA X (e :: es) ms) (hn : x ≠ "__name__" := by decide) (hdb : (x == ("__debug__" : Str)) = false := by decide)
    (he : starEach (e :: es) X.env = (false, eval e X.env) :: starEach es X.env := by rfl) (hpl : (backTo pos (starEach es X.env)).any (·.1) = false := by rfl) : ME X (.Call (.Name x p) (e :: es) [] pos) (eCB g ms) :=
  PE.weak (pe_callTy hc hg hm hv ha hn hdb he hpl) fun _ _ _ => cb_rd
end
section
variable {X : Cx}
def gLen : List PyData → Option EV
  | [.list xs] => some (.sh (.int xs.length))
  | [.tuple xs] => some (.sh (.int xs.length))
  | [.str z] => if z.length ≤ sizeLine then some (.sh (.int z.length)) else none
  | _ => none
theorem DnAll.one {H : Hp} {vs : List V} {d : PyData} (h : DnAll H vs [d]) : ∃ v, vs = [v] ∧ Dn H v d := by
  cases h with
  | cons a r => cases r; exact ⟨_, rfl, a⟩
theorem DnAll.two {H : Hp} {vs : List V} {d d' : PyData} (h : DnAll H vs [d, d']) : ∃ v v', vs = [v, v'] ∧ Dn H v d ∧ Dn H v' d' := by
  cases h with
  | cons a r =>
    obtain ⟨v, rfl, r'⟩ := r.one
    exact ⟨_, _, rfl, a, r'⟩
theorem cr_lenM : CallR X (.builtin "len") (rDA gLen) := by
  intro pins s σ H vs us Q I r ⟨H0, ds, e, l, ra, hg, q⟩
  unfold gLen at hg
  split at hg
  · cases hg
    obtain ⟨v, rfl, rv⟩ := ra.one
    obtain ⟨a1, zs, rfl, ha, al⟩ := rv.lst_inv
    rw [← al.length] at q
    exact call_len_seq pins s σ H _ us Q I r ⟨a1, zs, rfl, .inl (.inl (.inl (l _ _ ha))), q _ _ nr_int⟩
  · cases hg
    obtain ⟨v, rfl, rv⟩ := ra.one
    obtain ⟨a1, zs, rfl, ha, al⟩ := rv.tup_inv
    rw [← al.length] at q
    exact call_len_seq pins s σ H _ us Q I r ⟨a1, zs, rfl, .inr (.inl (.inl (l _ _ ha))), q _ _ nr_int⟩
  · split at hg
    · cases hg
      obtain ⟨v, rfl, rv⟩ := ra.one
      obtain rfl := rv.str_inv
      exact call_len_str pins s σ H _ us Q I r ⟨_, rfl, by assumption, q _ _ nr_int⟩
    · cases hg
  · cases hg
def gInt : List PyData → Option EV
  | [.int i] => some (.sh (.int i))
  | _ => none
theorem cr_intM : CallR X (.type "int") (rDA gInt) := by
  intro pins s σ H vs us Q I r ⟨H0, ds, e, l, ra, hg, q⟩
  unfold gInt at hg
  split at hg
  · cases hg
    obtain ⟨v, rfl, rv⟩ := ra.one
    obtain rfl := rv.int_inv
    exact call_int1 pins s σ H _ us Q I r (.inl ⟨_, rfl, q _ _ nr_int⟩)
  · cases hg
def gAbs : List PyData → Option EV
  | [.int i] => some (.sh (.int (if i < 0 then -i else i)))
  | _ => none
theorem cr_absM : CallR X (.builtin "abs") (rDA gAbs) := by
  intro pins s σ H vs us Q I r ⟨H0, ds, e, l, ra, hg, q⟩
  unfold gAbs at hg
  split at hg
  · cases hg
    obtain ⟨v, rfl, rv⟩ := ra.one
    obtain rfl := rv.int_inv
    exact call_abs pins s σ H _ us Q I r ⟨_, rfl, q _ _ nr_int⟩
  · cases hg
/-! sorted -/
def leD (a c : PyData) : Bool := PySem.W.dataLe false id a c
def allAlikeB (ds : List PyData) : Bool := ds.all fun d => ds.all fun d' => PySem.W.alike d d'
def isTup1 : PyData → Bool
  | .tuple (_ :: _) => true
  | _ => false
def isOther : PyData → Bool
  | .none => false
  | .tuple _ => false
  | _ => true
def sortOk (ds : List PyData) : Bool := allAlikeB ds && (ds.all isTup1 || ds.all isOther) && ds.all (fun d => decide (d.depth ≤ 60)) && decide (ds.length ≤ sizeLine)
def gSorted : List PyData → Option EV
  | [.list ds] => if sortOk ds then some (.ow (.list (ds.mergeSort leD))) else none
  | _ => none
theorem each_pairs {H : Hp} : ∀ {vs : List V} {ds : List PyData} {us : List Value}, DnAll H vs ds → Vals vs us → PySem.W.EachIs (fun (u : Value) (p : V × PyData) => RelV p.1 u ∧ Dn H p.1 p.2) us (vs.zip ds)
  | [], _, _, h, r => by cases h; cases r; exact .nil
  | v :: vs, _, _, h, r => by
    cases h with
    | cons a b =>
      cases r with
      | cons c d => exact .cons ⟨c, a⟩ (each_pairs b d)
theorem each_unzip {H : Hp} : ∀ {us : List Value} {ps : List (V × PyData)}, PySem.W.EachIs (fun (u : Value) (p : V × PyData) => RelV p.1 u ∧ Dn H p.1 p.2) us ps → Vals (ps.map (·.1)) us ∧ DnAll H (ps.map (·.1)) (ps.map (·.2))
  | [], _, h => by cases h; exact ⟨.nil, .nil⟩
  | u :: us, _, h => by
    cases h with
    | cons a b => exact ⟨.cons a.1 (each_unzip b).1, .cons a.2 (each_unzip b).2⟩
theorem zip_snd {H : Hp} : ∀ {vs : List V} {ds : List PyData}, DnAll H vs ds → (vs.zip ds).map (·.2) = ds
  | [], _, h => by cases h; rfl
  | v :: vs, _, h => by
    cases h with
    | cons a b => simp [zip_snd b]
theorem cr_sortedM (hu : X.A.units + 64 < cLine) : CallR X (.builtin "sorted") (rDA gSorted) := by
  intro pins s σ H vs us Q I r ⟨H0, ds, e, l, ra, hg, q⟩
  unfold gSorted at hg
  split at hg
  · rename_i ds
    split at hg
    · rename_i ok
      cases hg
      simp only [sortOk, Bool.and_eq_true, decide_eq_true_eq, Bool.or_eq_true] at ok
      obtain ⟨⟨⟨ok1, ok2⟩, ok3⟩, ok4⟩ := ok
      obtain ⟨v, rfl, rv⟩ := ra.one
      obtain ⟨a1, zs, rfl, ha, al⟩ := rv.lst_inv
      have ha' := l _ _ ha
      obtain ⟨its, rvs, hl, hsz⟩ := I.list (show SqL X.K H a1 zs from .inl (.inl ha'))
      rw [Vals.ref1 r]
      have ee := each_pairs al rvs
      have er : PySem.W.EachIs (fun (u : Value) (p : V × PyData) => ∃ as, Reads s.heap u p.2 as) its (zs.zip ds) := ee.mono fun u p hp => by
        obtain ⟨as, hr, _⟩ := Dn.reads I p.2 p.1 u (Dn.mono l _ _ hp.2) hp.1
        exact ⟨as, hr⟩
      have e2 := zip_snd al
      have len2 : (zs.zip ds).length = ds.length := by rw [List.length_zip, al.length]; exact Nat.min_self _
      refine PySem.W.sorted_data (enc := fun p : V × PyData => p.2) hl.isList ee er ?_ ?_ (by rw [len2]; exact ok4) ?_ fun out ho eo => ?_
      · rw [e2]
        intro d hd d' hd'
        have := List.all_eq_true.mp ok1 d hd
        exact List.all_eq_true.mp this d' hd'
      · rw [e2]
        rcases ok2 with ok2 | ok2
        · left
          intro d hd
          have := List.all_eq_true.mp ok2 d hd
          cases d with
          | tuple xs => cases xs with
            | nil => cases this
            | cons x xs => exact ⟨x, xs, rfl⟩
          | _ => cases this
        · right
          intro d hd
          have := List.all_eq_true.mp ok2 d hd
          cases d with
          | none => cases this
          | tuple xs => cases this
          | _ => exact ⟨nofun, fun _ => nofun⟩
      · intro p hp
        have hm : p.2 ∈ ds := by rw [← e2]; exact List.mem_map_of_mem hp
        have := List.all_eq_true.mp ok3 p.2 hm
        simp only [decide_eq_true_eq] at this
        omega
      · obtain ⟨ep, he'⟩ := PyProof.Rows.sortedAll_at s.heap its out.toArray
        obtain ⟨u1, u2⟩ := each_unzip eo
        have e3 : ((zs.zip ds).mergeSort (PySem.W.dataLe false fun p : V × PyData => p.2)).map (·.2) = ds.mergeSort leD := by
          rw [List.map_mergeSort (s := leD), e2]
          intro a _ c _
          rfl
        have hp : H (s.heap.objs.size + 1) = none := I.hok.fresh (Nat.le_succ _)
        have lenS : (((zs.zip ds).mergeSort (PySem.W.dataLe false fun p : V × PyData => p.2)).map (·.1)).length ≤ sizeLine := by
          rw [List.length_map, List.length_mergeSort, len2]; exact ok4
        refine ⟨.ref _, upd H (s.heap.objs.size + 1) (.lst (((zs.zip ds).mergeSort (PySem.W.dataLe false fun p : V × PyData => p.2)).map (·.1))), I.laid (t' := s.toks) (fun _ _ => PyProof.Rows.sortedAll_old) (Nat.le_succ _) ⟨lenS, out, ep, u1, ?_⟩, rfl, q _ _ ⟨_, _, _, rfl, rfl, hp, rfl, ?_⟩⟩
        · exact he'
        · rw [← e3]
          exact u2
    · cases hg
  · cases hg
end
end Mr
namespace Mr
open PySem PySem.Spec PyProof.Rows L2
section
variable {X : Cx}
/-! ### repr -/
def gRepr : List PyData → Option EV
  | [d] => if d.showable && !d.hasDict && decide (d.depth ≤ 60) && decide (d.shown.length ≤ sizeLine) then some (.sh (.str d.shown)) else none
  | _ => none
/-- .. of data with dicts in it -/
def gReprD : List PyData → Option EV
  | [d] => if d.showable && decide (d.depth ≤ 60) && decide (d.shown.length ≤ sizeLine) then some (.sh (.str d.shown)) else none
  | _ => none
theorem repr_core {pins : List (Addr × Obj)} {s : Shared} {σ : L2.St} {H H0 : Hp} {v : V} {u : Value} {Q : VK} {d : PyData} (hgu : X.A.guards = some []) (hu : X.A.units + 64 < cLine) (I : Inv X pins σ H s) (rv : RelV v u) (l : Le H0 H) (D : Dn H0 v d)
    (h1 : d.showable = true) (h2 : d.hasDict = true → H sysModules = none) (h3 : d.depth ≤ 60) (h4 : d.shown.length ≤ sizeLine) (q : Q (.str d.shown) H) : wpAny (model X.prog X.w) X.A (call (.builtin "repr") [u]) (EP X pins σ Q) X.xe s := by
  obtain ⟨as, R, T⟩ := Dn.reads I d v u (Dn.mono l _ _ D) rv
  have hs : d.hasDict = true → sysModules ∉ as := fun hd hm => by
    obtain ⟨o, ho⟩ := T _ hm
    rw [h2 hd] at ho; cases ho
  have fin : ∀ (h' : Heap) (t' : Tok) (tk : Nat), (∀ b o, s.heap.get? b = some o → h'.get? b = some o) → EP X pins σ Q (.str d.shown t') { s with heap := h', toks := tk } :=
    fun h' t' tk hk => ⟨.str d.shown, H, I.kept hk, ⟨_, rfl⟩, q⟩
  cases R with
  | none => exact PySem.P.repr_of_none (fin s.heap _ _ fun _ _ z => z)
  | bool b => exact PySem.P.repr_of_bool (fin s.heap _ _ fun _ _ z => z)
  | int i t =>
    simp only [PyData.showable, decide_eq_true_eq] at h1
    exact PySem.P.repr_of_int h1 (fin s.heap _ _ fun _ _ z => z)
  | str x t => exact PySem.P.repr_of_str (fin s.heap _ _ fun _ _ z => z) h4
  | list a1 a2 a3 a4 => exact repr_of_reads' (.list a1 a2 a3 a4) h1 hs hgu (by omega) (fun _ _ z => z) (fun h' t' tk hk => fin h' t' tk hk) h4
  | tuple a1 a2 a3 a4 => exact repr_of_reads' (.tuple a1 a2 a3 a4) h1 hs hgu (by omega) (fun _ _ z => z) (fun h' t' tk hk => fin h' t' tk hk) h4
  | dict a1 a2 a3 a4 a5 => exact repr_of_reads' (.dict a1 a2 a3 a4 a5) h1 hs hgu (by omega) (fun _ _ z => z) (fun h' t' tk hk => fin h' t' tk hk) h4
theorem cr_reprM (hgu : X.A.guards = some []) (hu : X.A.units + 64 < cLine) : CallR X (.builtin "repr") (rDA gRepr) := by
  intro pins s σ H vs us Q I r ⟨H0, ds, e, l, ra, hg, q⟩
  unfold gRepr at hg
  split at hg
  · rename_i d
    split at hg
    · rename_i ok
      cases hg
      simp only [Bool.and_eq_true, decide_eq_true_eq, Bool.not_eq_true'] at ok
      obtain ⟨v, rfl, rv⟩ := ra.one
      obtain ⟨u, rfl, ru⟩ := vals1 r
      exact repr_core hgu hu I ru l rv ok.1.1.1 (fun z => by rw [ok.1.1.2] at z; cases z) ok.1.2 ok.2 (q _ _ nr_str)
    · cases hg
  · cases hg
theorem noSys (hS : ∃ o, X.base.get? sysModules = some o) {pins : List (Addr × Obj)} {s : Shared} {σ : L2.St} {H : Hp} (I : Inv X pins σ H s) : H sysModules = none := by
  obtain ⟨o, ho⟩ := hS
  obtain ⟨h1, h2⟩ := I.ok.bs _ _ ho
  exact I.base.free _ _ h1 h2 (I.ok.noex _ _ ho)
theorem cr_reprDM (hS : ∃ o, X.base.get? sysModules = some o) (hgu : X.A.guards = some []) (hu : X.A.units + 64 < cLine) : CallR X (.builtin "repr") (rDA gReprD) := by
  intro pins s σ H vs us Q I r ⟨H0, ds, e, l, ra, hg, q⟩
  unfold gReprD at hg
  split at hg
  · rename_i d
    split at hg
    · rename_i ok
      cases hg
      simp only [Bool.and_eq_true, decide_eq_true_eq] at ok
      obtain ⟨v, rfl, rv⟩ := ra.one
      obtain ⟨u, rfl, ru⟩ := vals1 r
      exact repr_core hgu hu I ru l rv ok.1.1 (fun _ => noSys hS I) ok.1.2 ok.2 (q _ _ nr_str)
    · cases hg
  · cases hg
/-! ### isinstance -/
def isT (T : String) (d : PyData) : Option Bool :=
  if T = "int" then some d.isInt else if T = "bool" then some d.isBool else if T = "str" then some d.isStr else if T = "list" then some d.isList else if T = "tuple" then some d.isTuple else if T = "dict" then some d.isDict else none
def gIsi (T : String) (d : PyData) : Option EV := (isT T d).map fun k => .sh (.bool k)
def rIsi (T : String) : List V → Hp → VK → Prop := fun xs H Q => ∃ v H0 d k, xs = [v, .ty T] ∧ Le H0 H ∧ Dn H0 v d ∧ isT T d = some k ∧ Q (.bl k) H
theorem cr_isi (T : String) : CallR X (.builtin "isinstance") (rIsi T) := by
  intro pins s σ H vs us Q I r ⟨v, H0, d, k, e, l, D, hk, q⟩
  subst e
  obtain ⟨u, u2, rfl, ru, r2⟩ := vals2 r
  obtain rfl : u2 = Value.type T := r2
  obtain ⟨as, R, _⟩ := Dn.reads I d v u (Dn.mono l _ _ D) ru
  have fin : ∀ tk, EP X pins σ Q (.bool k) { s with toks := tk } := fun tk => ⟨.bl k, H, I.tok tk, rfl, q⟩
  unfold isT at hk
  split at hk
  · rename_i hT; subst hT; cases hk; exact PySem.W.isinstance_int_data R fun tk _ => fin tk
  · split at hk
    · rename_i hT; subst hT; cases hk; exact PySem.W.isinstance_bool_data R fun tk _ => fin tk
    · split at hk
      · rename_i hT; subst hT; cases hk; exact PySem.W.isinstance_str_data R fun tk _ => fin tk
      · split at hk
        · rename_i hT; subst hT; cases hk; exact PySem.W.isinstance_list_data R fun tk _ => fin tk
        · split at hk
          · rename_i hT; subst hT; cases hk; exact PySem.W.isinstance_tuple_data R fun tk _ => fin tk
          · split at hk
            · rename_i hT; subst hT; cases hk; exact PySem.W.isinstance_dict_data R fun tk _ => fin tk
            · cases hk
theorem me_isi {T : String} {y : Str} {a : Expr} {m : EM} {p p2 pos : Pos} (hg : Gl X "isinstance") (hm : X.mg "isinstance" = none) (ha : ME X a m) (hgT : Gl X y) (hmT : X.mg y = none) (hvT : bootBuiltins y = some (.type T)) (hnT : y ≠ "__name__" := by decide) (hdT : (y == ("__debug__" : Str)) = false := by decide)
    (he : starEach [a, .Name y p2] X.env = (false, eval a X.env) :: starEach [.Name y p2] X.env := by rfl) (he2 : starEach [.Name y p2] X.env = (false, eval (.Name y p2) X.env) :: starEach [] X.env := by rfl) (hpl : (backTo pos (starEach [.Name y p2] X.env)).any (·.1) = false := by rfl) :
    ME X (.Call (.Name "isinstance" p) [a, .Name y p2] [] pos) (eUn (gIsi T) m) :=
  PE.weak (pe_callB (cr_isi T) hg hm PyProof.Rows.boot_isinstance (pa_cons ha (pa_cons (pe_bltn hgT hmT hvT (v := .ty T) rfl hnT hdT) pa_nil he2) he) (by decide) (by decide) he hpl) fun σ H Q ⟨b, He, H0e, ρ, B, H0, s, q⟩ => by
    unfold eUn at q
    cases h1 : m ρ B with
    | bad => rw [h1] at q; exact q.elim
    | ok e1 B1 =>
      rw [h1, bind_ok] at q
      refine rdE_at s h1 fun v H01 H1 g1 s1 r1 => ?_
      cases hd1 : e1.data with
      | none => rw [hd1] at q; exact q.elim
      | some d1 =>
        obtain ⟨H02, g2, s2, D1⟩ := s.data g1 s1 r1 hd1
        rw [hd1] at q
        cases hg : isT T d1 with
        | none => simp [hg, gIsi] at q
        | some k =>
          simp [hg, gIsi] at q
          exact ⟨v, H02, d1, k, rfl, s2.hr.le, D1, hg, q _ H02 H1 g2 s2 (.bl k)⟩
/-! ### all, any of truths -/
def boolsD : List PyData → Option (List Bool)
  | [] => some []
  | .bool b :: r => (boolsD r).map (b :: ·)
  | _ => none
theorem DnAll.bools {H : Hp} : ∀ {vs : List V} {ds : List PyData} {bs : List Bool}, DnAll H vs ds → boolsD ds = some bs → vs = bs.map V.bl
  | [], _, _, h, e => by cases h; cases e; rfl
  | v :: vs, _, bs, h, e => by
    cases h with
    | cons a b =>
      rename_i d ds
      cases d with
      | bool k =>
        simp only [boolsD, Option.map_eq_some_iff] at e
        obtain ⟨bs', e1, rfl⟩ := e
        rw [a.bl_inv, b.bools e1]
        rfl
      | _ => cases e
def gAll : List PyData → Option EV
  | [.list ds] => (boolsD ds).map fun bs => .sh (.bool (bs.all id))
  | _ => none
def gAny : List PyData → Option EV
  | [.list ds] => (boolsD ds).map fun bs => .sh (.bool (bs.any id))
  | _ => none
theorem cr_allM (hc : X.calm = true) : CallR X (.builtin "all") (rDA gAll) := by
  intro pins s σ H vs us Q I r ⟨H0, ds, e, l, ra, hg, q⟩
  unfold gAll at hg
  split at hg
  · simp only [Option.map_eq_some_iff] at hg
    obtain ⟨bs, hb, rfl⟩ := hg
    obtain ⟨v, rfl, rv⟩ := ra.one
    obtain ⟨a1, zs, rfl, ha, al⟩ := rv.lst_inv
    have := al.bools hb
    subst this
    exact cr_all hc pins s σ H _ us Q I r ⟨a1, bs, rfl, .inl (.inl (l _ _ ha)), q _ _ nr_bl⟩
  · cases hg
theorem cr_anyM (hc : X.calm = true) : CallR X (.builtin "any") (rDA gAny) := by
  intro pins s σ H vs us Q I r ⟨H0, ds, e, l, ra, hg, q⟩
  unfold gAny at hg
  split at hg
  · simp only [Option.map_eq_some_iff] at hg
    obtain ⟨bs, hb, rfl⟩ := hg
    obtain ⟨v, rfl, rv⟩ := ra.one
    obtain ⟨a1, zs, rfl, ha, al⟩ := rv.lst_inv
    have := al.bools hb
    subst this
    exact cr_any hc pins s σ H _ us Q I r ⟨a1, bs, rfl, .inl (.inl (l _ _ ha)), q _ _ nr_bl⟩
  · cases hg
/-! ### min, max of two texts or two ints -/
def strAt (x y : Str) (i : Nat) : Str := if i = 0 then x else y
theorem two_keep {s : Shared} {h' : Heap} {o1 o2 : Obj} {wr : Addr} (hw : wr = s.heap.objs.size + 1) (hk : ∀ b o, b ∉ [wr] → ((s.heap.push o1).push o2).get? b = some o → h'.get? b = some o) : ∀ c o, s.heap.get? c = some o → h'.get? c = some o := fun c o e => by
  refine hk c o (fun hm => ?_) (Heap.get?_push_of_some _ (Heap.get?_push_of_some _ e))
  have hlt := Heap.lt_size e
  simp only [List.mem_singleton] at hm
  rw [hm, hw] at hlt
  exact Nat.lt_irrefl _ (Nat.lt_of_succ_lt hlt)
theorem min_two_strs {prog : Program} {w : World} {A : Around} {E : Value → Shared → Prop} {s : Shared} {x y : Str} {t u : Tok} {Q : Value → Shared → Prop} (hh : A.handled = none) (hu : A.units + 64 < cLine)
    (h : ∀ h' tk, (∀ c o, s.heap.get? c = some o → h'.get? c = some o) → Q (if y.cps.toList < x.cps.toList then .str y u else .str x t) { s with heap := h', toks := tk }) :
    wpAny (model prog w) A (call (.builtin "min") [.str x t, .str y u]) Q E s := by
  have hT : (s.heap.push { cls := .type "tuple", data := .seq #[.str x t, .str y u] }).IsTuple s.heap.objs.size #[.str x t, .str y u] := ⟨_, Heap.get?_push_size _ rfl, rfl, 0, rfl⟩
  have hsz : (s.heap.push { cls := .type "tuple", data := .seq #[.str x t, .str y u] }).objs.size = s.heap.objs.size + 1 := Heap.size_push ..
  have hcmp : CmpOf prog w A.in1 .Lt (fun i v => (#[Value.str x t, Value.str y u])[i]? = some v) (fun i j => decide ((strAt x y i).cps.toList < (strAt x y j).cps.toList)) := by
    intro i j vi vj s' Q' E' hi hj hq
    have sh : ∀ (n : Nat) (v : Value), (#[Value.str x t, Value.str y u])[n]? = some v → ∃ k, v = .str (strAt x y n) k := by
      intro n v hn
      match n, hn with
      | 0, hn => exact ⟨t, by simpa [strAt] using hn.symm⟩
      | 1, hn => exact ⟨u, by simpa [strAt] using hn.symm⟩
      | n + 2, hn => simp at hn
    obtain ⟨k1, rfl⟩ := sh i vi hi
    obtain ⟨k2, rfl⟩ := sh j vj hj
    exact PySem.W.rcLt_alike (.str _) (.str _) A.in1 s' _ _ [] [] (.str _ _) (.str _ _) rfl nofun (by show A.units + 1 + 0 < cLine; omega) prog w E' Q' (by rw [PySem.W.dataLt_str]; exact hq)
  refine call_min_two (wpAny_pyIter_tuple hT ?_)
  refine ⟨_, [_, s.heap.objs.size], [_], _, _, _, _, rfl, Walks.tuple (A := A.in1) hh _ s.heap.objs.size (by rw [hsz]; exact Nat.ne_of_lt (Nat.lt_succ_self _)) #[.str x t, .str y u],
    ⟨⟨_, Heap.get?_push_size _ rfl, rfl, rfl⟩, hT.push _⟩, fun c hc => ?_, by simp, hcmp, fun v h' tk hP hk => ?_⟩
  · show c < ((s.heap.push _).push _).objs.size
    rw [Heap.size_push, hsz]
    simp only [List.mem_cons, List.not_mem_nil, or_false, hsz] at hc
    rcases hc with rfl | rfl
    · exact Nat.lt_succ_self _
    · exact Nat.lt_succ_of_lt (Nat.lt_succ_self _)
  · have hv : v = if y.cps.toList < x.cps.toList then Value.str y u else Value.str x t := by
      by_cases hb : y.cps.toList < x.cps.toList
      · have e : argBest (fun i j => decide ((strAt x y i).cps.toList < (strAt x y j).cps.toList)) 1 = 1 := by simp [argBest, strAt, hb]
        have hP' : (#[Value.str x t, Value.str y u])[argBest (fun i j => decide ((strAt x y i).cps.toList < (strAt x y j).cps.toList)) 1]? = some v := hP
        rw [e] at hP'
        simpa [hb] using hP'.symm
      · have e : argBest (fun i j => decide ((strAt x y i).cps.toList < (strAt x y j).cps.toList)) 1 = 0 := by simp [argBest, strAt, hb]
        have hP' : (#[Value.str x t, Value.str y u])[argBest (fun i j => decide ((strAt x y i).cps.toList < (strAt x y j).cps.toList)) 1]? = some v := hP
        rw [e] at hP'
        simpa [hb] using hP'.symm
    rw [hv]; exact h h' tk (two_keep hsz hk)
theorem max_two_strs {prog : Program} {w : World} {A : Around} {E : Value → Shared → Prop} {s : Shared} {x y : Str} {t u : Tok} {Q : Value → Shared → Prop} (hh : A.handled = none) (hu : A.units + 64 < cLine)
    (h : ∀ h' tk, (∀ c o, s.heap.get? c = some o → h'.get? c = some o) → Q (if x.cps.toList < y.cps.toList then .str y u else .str x t) { s with heap := h', toks := tk }) :
    wpAny (model prog w) A (call (.builtin "max") [.str x t, .str y u]) Q E s := by
  have hT : (s.heap.push { cls := .type "tuple", data := .seq #[.str x t, .str y u] }).IsTuple s.heap.objs.size #[.str x t, .str y u] := ⟨_, Heap.get?_push_size _ rfl, rfl, 0, rfl⟩
  have hsz : (s.heap.push { cls := .type "tuple", data := .seq #[.str x t, .str y u] }).objs.size = s.heap.objs.size + 1 := Heap.size_push ..
  have hcmp : CmpOf prog w A.in1 .Gt (fun i v => (#[Value.str x t, Value.str y u])[i]? = some v) (fun i j => decide ((strAt x y j).cps.toList < (strAt x y i).cps.toList)) := by
    intro i j vi vj s' Q' E' hi hj hq
    have sh : ∀ (n : Nat) (v : Value), (#[Value.str x t, Value.str y u])[n]? = some v → ∃ k, v = .str (strAt x y n) k := by
      intro n v hn
      match n, hn with
      | 0, hn => exact ⟨t, by simpa [strAt] using hn.symm⟩
      | 1, hn => exact ⟨u, by simpa [strAt] using hn.symm⟩
      | n + 2, hn => simp at hn
    obtain ⟨k1, rfl⟩ := sh i vi hi
    obtain ⟨k2, rfl⟩ := sh j vj hj
    exact PySem.W.rcGt_alike (.str _) (.str _) A.in1 s' _ _ [] [] (.str _ _) (.str _ _) rfl nofun (by show A.units + 1 + 0 < cLine; omega) prog w E' Q' (by rw [PySem.W.dataLt_str]; exact hq)
  refine call_max_two (wpAny_pyIter_tuple hT ?_)
  refine ⟨_, [_, s.heap.objs.size], [_], _, _, _, _, rfl, Walks.tuple (A := A.in1) hh _ s.heap.objs.size (by rw [hsz]; exact Nat.ne_of_lt (Nat.lt_succ_self _)) #[.str x t, .str y u],
    ⟨⟨_, Heap.get?_push_size _ rfl, rfl, rfl⟩, hT.push _⟩, fun c hc => ?_, by simp, hcmp, fun v h' tk hP hk => ?_⟩
  · show c < ((s.heap.push _).push _).objs.size
    rw [Heap.size_push, hsz]
    simp only [List.mem_cons, List.not_mem_nil, or_false, hsz] at hc
    rcases hc with rfl | rfl
    · exact Nat.lt_succ_self _
    · exact Nat.lt_succ_of_lt (Nat.lt_succ_self _)
  · have hv : v = if x.cps.toList < y.cps.toList then Value.str y u else Value.str x t := by
      by_cases hb : x.cps.toList < y.cps.toList
      · have e : argBest (fun i j => decide ((strAt x y j).cps.toList < (strAt x y i).cps.toList)) 1 = 1 := by simp [argBest, strAt, hb]
        have hP' : (#[Value.str x t, Value.str y u])[argBest (fun i j => decide ((strAt x y j).cps.toList < (strAt x y i).cps.toList)) 1]? = some v := hP
        rw [e] at hP'
        simpa [hb] using hP'.symm
      · have e : argBest (fun i j => decide ((strAt x y j).cps.toList < (strAt x y i).cps.toList)) 1 = 0 := by simp [argBest, strAt, hb]
        have hP' : (#[Value.str x t, Value.str y u])[argBest (fun i j => decide ((strAt x y j).cps.toList < (strAt x y i).cps.toList)) 1]? = some v := hP
        rw [e] at hP'
        simpa [hb] using hP'.symm
    rw [hv]; exact h h' tk (two_keep hsz hk)
def minS (x y : Str) : Str := if y.cps.toList < x.cps.toList then y else x
def maxS (x y : Str) : Str := if x.cps.toList < y.cps.toList then y else x
def gMin : List PyData → Option EV
  | [.str x, .str y] => some (.sh (.str (minS x y)))
  | [.int x, .int y] => some (.sh (.int (if y < x then y else x)))
  | _ => none
def gMax : List PyData → Option EV
  | [.str x, .str y] => some (.sh (.str (maxS x y)))
  | [.int x, .int y] => some (.sh (.int (if y > x then y else x)))
  | _ => none
theorem cr_minM (hc : X.calm = true) (hu : X.A.units + 64 < cLine) : CallR X (.builtin "min") (rDA gMin) := by
  intro pins s σ H vs us Q I r ⟨H0, ds, e, l, ra, hg, q⟩
  unfold gMin at hg
  split at hg
  · rename_i x y
    cases hg
    obtain ⟨v, v2, rfl, rv, rv2⟩ := ra.two
    obtain rfl := rv.str_inv
    obtain rfl := rv2.str_inv
    obtain ⟨u, u2, rfl, ⟨t, rfl⟩, ⟨t2, rfl⟩⟩ := vals2 r
    refine min_two_strs (I.ok.hd hc) hu fun h' tk k => ⟨.str (minS x y), H, I.kept k, ?_, q _ _ nr_str⟩
    unfold minS
    by_cases hb : y.cps.toList < x.cps.toList
    · rw [if_pos hb, if_pos hb]; exact ⟨_, rfl⟩
    · rw [if_neg hb, if_neg hb]; exact ⟨_, rfl⟩
  · cases hg
    obtain ⟨v, v2, rfl, rv, rv2⟩ := ra.two
    obtain rfl := rv.int_inv
    obtain rfl := rv2.int_inv
    exact call_min2 hc pins s σ H _ us Q I r ⟨_, _, rfl, q _ _ nr_int⟩
  · cases hg
theorem cr_maxM (hc : X.calm = true) (hu : X.A.units + 64 < cLine) : CallR X (.builtin "max") (rDA gMax) := by
  intro pins s σ H vs us Q I r ⟨H0, ds, e, l, ra, hg, q⟩
  unfold gMax at hg
  split at hg
  · rename_i x y
    cases hg
    obtain ⟨v, v2, rfl, rv, rv2⟩ := ra.two
    obtain rfl := rv.str_inv
    obtain rfl := rv2.str_inv
    obtain ⟨u, u2, rfl, ⟨t, rfl⟩, ⟨t2, rfl⟩⟩ := vals2 r
    refine max_two_strs (I.ok.hd hc) hu fun h' tk k => ⟨.str (maxS x y), H, I.kept k, ?_, q _ _ nr_str⟩
    unfold maxS
    by_cases hb : x.cps.toList < y.cps.toList
    · rw [if_pos hb, if_pos hb]; exact ⟨_, rfl⟩
    · rw [if_neg hb, if_neg hb]; exact ⟨_, rfl⟩
  · cases hg
    obtain ⟨v, v2, rfl, rv, rv2⟩ := ra.two
    obtain rfl := rv.int_inv
    obtain rfl := rv2.int_inv
    exact call_max2 hc pins s σ H _ us Q I r ⟨_, _, rfl, q _ _ nr_int⟩
  · cases hg
end
end Mr
namespace Mr
open PySem PySem.Spec PyProof.Rows L2
/-! ### the bag: read and stored by its places -/
def bagGet (B : Bag) : Nat → Option EV
  | 0 => some (.sh (.int B.x0))
  | 1 => some (.sh (.int B.x1))
  | 2 => some (.sh (.int B.x2))
  | 3 => some (.sh (.list (B.cells.map PyData.int)))
  | _ => none
def bagSet (B : Bag) (v : Int) : Nat → Option Bag
  | 0 => if 0 ≤ v then some { B with x0 := v } else none
  | 1 => if 0 ≤ v ∧ v < 2147483647 then some { B with x1 := v } else none
  | 2 => if 0 ≤ v then some { B with x2 := v } else none
  | _ => none
def isBg (ρ : Env) (j : Nat) : Bool := match ρ[j]? with
  | some (some .bg) => true
  | _ => false
def eBg (j k : Nat) : EM := fun ρ B => if isBg ρ j then liftO (bagGet B k) B else .bad
def intOf : EV → Option Int
  | .sh (.int i) => some i
  | _ => none
def sBg (j k : Nat) (m : EM) : SM := fun ρ B => (m ρ B).bind fun e B1 => if isBg ρ j then (match (intOf e).bind fun v => bagSet B1 v k with
  | some B2 => .ok (.nx ρ) B2
  | none => .bad) else .bad
/-- bag[k] += e -/
def sBgAdd (j k : Nat) (m : EM) : SM := fun ρ B => if isBg ρ j then (match (bagGet B k).bind intOf with
  | some x => (m ρ B).bind fun e B1 => (match (intOf e).bind fun v => bagSet B1 (x + v) k with
    | some B2 => .ok (.nx ρ) B2
    | none => .bad)
  | none => .bad) else .bad
section
variable {b : Addr × Addr} {He H0e H0 H : Hp} {σ : L2.St} {ρ : Env} {B B' : Bag}
theorem SR.isBg (s : SR b He H0e σ ρ B H0 H) {j : Nat} (h : isBg ρ j = true) : σ[j]? = some (some (.ref b.1)) := by
  unfold Mr.isBg at h
  split at h
  · rename_i hj
    obtain ⟨v, hv, r⟩ := s.slot j _ hj
    have : v = .ref b.1 := r
    rw [hv, this]
  · cases h
theorem bag_at (s : SR b He H0e σ ρ B H0 H) {k : Nat} {e : EV} (h : bagGet B k = some e) : ∃ v, atI [V.int B.x0, V.int B.x1, V.int B.x2, V.ref b.2] (k : Int) = some v ∧ VR b H H0 H v e := by
  match k, h with
  | 0, h => cases h; exact ⟨_, rfl, .int _⟩
  | 1, h => cases h; exact ⟨_, rfl, .int _⟩
  | 2, h => cases h; exact ⟨_, rfl, .int _⟩
  | 3, h => cases h; exact ⟨_, rfl, .lst s.hr.bag.2 (DnAll.ints _)⟩
/-- the bag's ints change -/
theorem SR.bagS (s : SR b He H0e σ ρ B H0 H) (ok : BagOk B') (hc : B'.cells = B.cells) : SR b He H0e σ ρ B' H0 (upd H b.1 (.lst [V.int B'.x0, V.int B'.x1, V.int B'.x2, V.ref b.2])) := by
  have g : Gr b H H0 (upd H b.1 (.lst [V.int B'.x0, V.int B'.x1, V.int B'.x2, V.ref b.2])) H0 := ⟨fun a o na e => by rw [upd_ne na]; exact e, Le.refl _, fun _ _ _ n => n, s.hr.fb⟩
  refine s.more g ⟨fun a o e => ?_, s.hr.fb, ⟨upd_same, by rw [hc]; exact s.hr.bag.2⟩, ok⟩
  rw [upd_ne (ne_of_none e s.hr.fb)]; exact s.hr.le a o e
theorem bagSet_ok {v : Int} {k : Nat} (ok : BagOk B) (h : bagSet B v k = some B') : BagOk B' ∧ B'.cells = B.cells ∧ ∃ j, ixN 4 (k : Int) = some j ∧ [V.int B.x0, V.int B.x1, V.int B.x2, V.ref b.2].set j (V.int v) = [V.int B'.x0, V.int B'.x1, V.int B'.x2, V.ref b.2] := by
  match k, h with
  | 0, h =>
    simp only [bagSet] at h
    split at h
    · cases h; exact ⟨⟨by assumption, ok.a1, ok.a2, ok.cs⟩, rfl, 0, rfl, rfl⟩
    · cases h
  | 1, h =>
    simp only [bagSet] at h
    split at h
    · cases h; exact ⟨⟨ok.a0, by assumption, ok.a2, ok.cs⟩, rfl, 1, rfl, rfl⟩
    · cases h
  | 2, h =>
    simp only [bagSet] at h
    split at h
    · cases h; exact ⟨⟨ok.a0, ok.a1, by assumption, ok.cs⟩, rfl, 2, rfl, rfl⟩
    · cases h
end
section
variable {X : Cx} {e : Expr} {m : EM} {pos : Pos}
theorem me_bg {j k : Nat} {x : Str} {xp cp : Pos} {c} (hx : PE X (.Name x xp) (tVar j)) : ME X (.Subscript (.Name x xp) (.Constant (.int (k : Int)) c cp) pos) (eBg j k) :=
  PE.weak (pe_ix ix_list hx pe_int (fun _ _ => rfl)) fun σ H Q ⟨b, He, H0e, ρ, B, H0, s, q⟩ => by
    unfold eBg at q
    by_cases hb : isBg ρ j = true
    · rw [if_pos hb] at q
      cases hk : bagGet B k with
      | none => rw [hk] at q; exact q.elim
      | some e =>
        rw [hk] at q
        obtain ⟨v, hv, r⟩ := bag_at s hk
        exact ⟨_, s.isBg hb, b.1, _, k, v, rfl, rfl, .inl (.inl s.hr.bag.1), hv, q v H0 H (Gr.refl s.hr.fb) s r⟩
    · rw [if_neg hb] at q; exact q.elim
theorem intOf_inv {b : Addr × Addr} {H H0 H' : Hp} {v : V} {e : EV} {k : Int} (r : VR b H H0 H' v e) (h : intOf e = some k) : v = .int k := by
  cases e with
  | ow d => cases h
  | bg => cases h
  | sh d =>
    cases d with
    | int k' => cases h; exact Dn.int_inv r
    | _ => cases h
theorem ms_bg {j k : Nat} {x : Str} {xp cp tp : Pos} {c} (hx : PE X (.Name x xp) (tVar j)) (he : ME X e m)
    (hs : swapsWithSole [.Subscript (.Name x xp) (.Constant (.int (k : Int)) c cp) tp] e pos.line X.env = pure false := by rfl)
    (hw : swappedStores [.Subscript (.Name x xp) (.Constant (.int (k : Int)) c cp) tp] e X.env = pure none := by rfl)
    (h1 : (assignEach [.Subscript (.Name x xp) (.Constant (.int (k : Int)) c cp) tp] X.env).map (·.2) = [assign (.Subscript (.Name x xp) (.Constant (.int (k : Int)) c cp) tp) X.env] := by rfl) :
    MS X (.Assign [.Subscript (.Name x xp) (.Constant (.int (k : Int)) c cp) tp] e pos) (sBg j k m) :=
  PS.weak (ps_asg he (pg_sub hx pe_int set_list) hs hw h1) fun D σ H ⟨b, He, H0e, ρ, B, H0, s, q⟩ => by
    unfold sBg at q
    cases h1 : m ρ B with
    | bad => rw [h1] at q; exact q.elim
    | ok e1 B1 =>
      rw [h1, bind_ok] at q
      refine rdE_at s h1 fun v H01 H1 g1 s1 r1 => ?_
      by_cases hb : isBg ρ j = true
      · rw [if_pos hb] at q
        cases hi : intOf e1 with
        | none => rw [hi] at q; exact q.elim
        | some i =>
          rw [hi] at q
          obtain rfl := intOf_inv r1 hi
          cases hk : bagSet B1 i k with
          | none => simp [hk] at q; exact q.elim
          | some B2 =>
            simp [hk] at q
            obtain ⟨ok, hc, jj, hj, hset⟩ := bagSet_ok (b := b) s1.hr.ok hk
            have := q σ H01 _ g1.l0 (s1.bagS ok hc)
            exact ⟨_, s1.isBg hb, b.1, _, k, jj, rfl, rfl, s1.hr.bag.1, hj, by rw [hset]; exact this⟩
      · rw [if_neg hb] at q; exact q.elim
def rGetL (K : PySem.W.Frag) : V → V → Hp → VK → Prop := fun o i H Q => ∃ (p : Addr) (xs : List V) (k : Nat) (v : V), o = .ref p ∧ i = .int (k : Int) ∧ H p = some (.lst xs) ∧ xs[k]? = some v ∧ Q v H
theorem get_listM : PGet X (rGetL X.K) := by
  intro pins s σ H o i ov iv Q I ro ri h
  obtain ⟨p, xs, k, v, rfl, rfl, hp, hk, q⟩ := h
  cases ro
  obtain ⟨t, rfl⟩ := ri
  obtain ⟨its, r, pl, hz⟩ := I.list (show SqL X.K H p xs from .inl (.inl hp))
  obtain ⟨u, hu, ru⟩ := r.get hk
  have hlt : k < its.length := (List.getElem?_eq_some_iff.mp hu).1
  have := r.length
  have := line63
  exact PyProof.Rows.getItem_listL (k := (k : Int)) pl.isList (by omega) (by omega) (by simpa using hu) ⟨v, H, I, ru, q⟩
theorem ms_bgAdd {j k : Nat} {x : Str} {xp cp tp : Pos} {c} (hx : PE X (.Name x xp) (tVar j)) (he : ME X e m)
    (ha : ∀ ov iv new, augStore (.Constant (.int (k : Int)) c cp) ov iv new = (do holding [new, ov, iv] (setItem ov iv new); release [new, ov, iv] []; pure .next) := by intros; rfl) :
    MS X (.AugAssign (.Subscript (.Name x xp) (.Constant (.int (k : Int)) c cp) tp) .Add e pos) (sBgAdd j k m) :=
  PS.weak (ps_augS hx pe_int get_listM he ip_add set_list ha) fun D σ H ⟨b, He, H0e, ρ, B, H0, s, q⟩ => by
    unfold sBgAdd at q
    by_cases hb : isBg ρ j = true
    · rw [if_pos hb] at q
      cases hk : bagGet B k with
      | none => rw [hk] at q; exact q.elim
      | some ek =>
        rw [hk] at q
        cases hx : intOf ek with
        | none => simp [hx] at q; exact q.elim
        | some x0 =>
          simp only [Option.bind_some, hx] at q
          obtain ⟨v, hv, r⟩ := bag_at s hk
          obtain rfl := intOf_inv r hx
          have hv' : [V.int B.x0, V.int B.x1, V.int B.x2, V.ref b.2][k]? = some (V.int x0) := by
            match k, hv with
            | 0, hv => exact hv
            | 1, hv => exact hv
            | 2, hv => exact hv
            | 3, hv => exact hv
            | n + 4, hv => cases hk
          refine ⟨_, s.isBg hb, b.1, _, k, _, rfl, rfl, s.hr.bag.1, hv', ?_⟩
          cases h1 : m ρ B with
          | bad => rw [h1] at q; exact q.elim
          | ok e1 B1 =>
            rw [h1, bind_ok] at q
            refine rdE_at s h1 fun y H01 H1 g1 s1 r1 => ?_
            cases hi : intOf e1 with
            | none => rw [hi] at q; exact q.elim
            | some i =>
              rw [hi] at q
              obtain rfl := intOf_inv r1 hi
              cases hk2 : bagSet B1 (x0 + i) k with
              | none => simp [hk2] at q; exact q.elim
              | some B2 =>
                simp [hk2] at q
                obtain ⟨ok, hc, jj, hj, hset⟩ := bagSet_ok (b := b) s1.hr.ok hk2
                have := q σ H01 _ g1.l0 (s1.bagS ok hc)
                exact ⟨x0, i, rfl, rfl, b.1, _, k, jj, rfl, rfl, s1.hr.bag.1, hj, by rw [hset]; exact this⟩
    · rw [if_neg hb] at q; exact q.elim
end
end Mr
namespace Mr
open PySem PySem.Spec PyProof.Rows L2
/-! ### two names at once, what is new stays one's own -/
def sPar2 (i j : Nat) (m1 m2 : EM) : SM := fun ρ B => (m1 ρ B).bind fun e1 B1 => (m2 ρ B1).bind fun e2 B2 => if i < ρ.length ∧ j < ρ.length then .ok (.nx ((ρ.set i (some e1)).set j (some e2))) B2 else .bad
theorem VR.mono {b : Addr × Addr} {He H H0 H1 H01 : Hp} {v : V} {e : EV} (r : VR b He H0 H v e) (g : Gr b H H0 H1 H01) : VR b He H01 H1 v e := by
  cases e with
  | sh d => exact Dn.mono g.l0 _ _ r
  | bg => exact r
  | ow d =>
    obtain ⟨p, vs, ds, rfl, h1, h2, h3, h4, h5, h6⟩ := r
    exact ⟨p, vs, ds, rfl, h1, h2, g.n0 p _ h5 h3, h4, g.kp p _ h1 h5, DnAll.mono g.l0 _ _ h6⟩
section
variable {X : Cx} {a c e : Expr} {es : List Expr} {m m1 m2 m3 : EM} {pos : Pos}
theorem par_rd {i j : Nat} (hij : i ≠ j) {D : Ends} {σ : L2.St} {H : Hp} (h : rdS (sPar2 i j m1 m2) D σ H) : tPar i j (tCons (rdE m1) (tCons (rdE m2) tNil)) D σ H := by
  obtain ⟨b, He, H0e, ρ, B, H0, s, q⟩ := h
  unfold sPar2 at q
  cases h1 : m1 ρ B with
  | bad => rw [h1] at q; exact q.elim
  | ok e1 B1 =>
    rw [h1, bind_ok] at q
    cases h2 : m2 ρ B1 with
    | bad => rw [h2] at q; exact q.elim
    | ok e2 B2 =>
      rw [h2, bind_ok] at q
      refine rdE_at s h1 fun v H01 H1 g1 s1 r1 => rdE_at s1 h2 fun y H02 H2 g2 s2 r2 => ?_
      by_cases hl : i < ρ.length ∧ j < ρ.length
      · rw [if_pos hl] at q
        have g12 := g1.trans g2
        have s3 : SR b He H0e (σ.set i (some v)) (ρ.set i (some e1)) B2 H02 H2 := s.setE g12 s2 hl.1 (r1.mono g2)
        have s4 : SR b He H0e ((σ.set i (some v)).set j (some y)) ((ρ.set i (some e1)).set j (some e2)) B2 H02 H2 := by
          refine s3.set (by simpa using hl.2) (r2.back (s.gr.trans g1)) fun d hd k d' hk ho hz => ?_
          subst hd
          obtain ⟨p, vs, ds, rfl, hb, hp1, _⟩ := r2
          by_cases hki : i = k
          · subst hki
            rw [List.getElem?_set_self hl.1] at ho
            rw [List.getElem?_set_self (by rw [s.len]; exact hl.1)] at hz
            cases ho; cases hz
            obtain ⟨p', vs', ds', e', _, _, _, _, hp', _⟩ := r1
            cases e'
            rw [hp1] at hp'; cases hp'
          · rw [List.getElem?_set_ne hki] at ho hz
            obtain ⟨⟨o, ho'⟩, _⟩ := s1.ownH ho hz
            rw [hp1] at ho'; cases ho'
        exact ⟨v, y, rfl, q _ H02 H2 g12.l0 s4⟩
      · rw [if_neg hl] at q; exact q.elim
theorem ms_par2 {i j : Nat} {x y : Str} {px py pt : Pos} {kt k2 pt2} (hc : X.calm = true) (hN : X.N.Nodup) (hi : X.N[i]? = some x) (hj : X.N[j]? = some y) (hij : i ≠ j)
    (hx : X.env.scope.names.lookup x = some .local) (hy : X.env.scope.names.lookup y = some .local) (ha : ME X a m1) (hb : ME X c m2)
    (hw : swappedStores [.Tuple [.Name x px, .Name y py] kt pt] (.Tuple [a, c] k2 pt2) X.env = pure (some [x, y]))
    (hs : swapsWithSole [.Tuple [.Name x px, .Name y py] kt pt] (.Tuple [a, c] k2 pt2) pos.line X.env = pure false := by rfl)
    (h1 : starEach [a, c] X.env = (false, eval a X.env) :: starEach [c] X.env := by rfl) (h2 : starEach [c] X.env = (false, eval c X.env) :: starEach [] X.env := by rfl) :
    MS X (.Assign [.Tuple [.Name x px, .Name y py] kt pt] (.Tuple [a, c] k2 pt2) pos) (sPar2 i j m1 m2) := PS.weak (ps_par hc hN hi hj hij hx hy (pa_cons ha (pa_cons hb pa_nil h2) h1) hw hs) fun _ _ _ => par_rd hij
/-! ### constants of the module, chains, signs in texts -/
theorem me_gs {x : Str} {z : Str} {t : Tok} (hg : Gl X x) (hm : X.mg x = some (.str z t)) (hd : (x == ("__debug__" : Str)) = false := by decide) : ME X (.Name x pos) (eC (.str z)) := me_c (fun _ => .str z) (pe_glob hg hm ⟨_, rfl⟩ hd)
theorem me_gi {x : Str} {z : Int} {t : Tok} (hg : Gl X x) (hm : X.mg x = some (.int z t)) (hd : (x == ("__debug__" : Str)) = false := by decide) : ME X (.Name x pos) (eC (.int z)) := me_c (fun _ => .int z) (pe_glob hg hm ⟨_, rfl⟩ hd)
def eChain (g g2 : PyData → PyData → Option EV) (m1 m2 m3 : EM) : EM := fun ρ B => (m1 ρ B).bind fun e1 B1 => (m2 ρ B1).bind fun e2 B2 => match e1.data.bind fun d1 => e2.data.bind fun d2 => (g d1 d2).bind boolOf with
  | some true => (m3 ρ B2).bind fun e3 B3 => liftO (e2.data.bind fun d2 => e3.data.bind fun d3 => g2 d2 d3) B3
  | some false => .ok (.sh (.bool false)) B2
  | none => .bad
theorem chain_rd {g g2 : PyData → PyData → Option EV} {σ : L2.St} {H : Hp} {Q : VK} (h : rdE (eChain g g2 m1 m2 m3) σ H Q) : tChain (rD2 g) (rD2 g2) (rdE m1) (rdE m2) (rdE m3) σ H Q := by
  obtain ⟨b, He, H0e, ρ, B, H0, s, q⟩ := h
  unfold eChain at q
  cases h1 : m1 ρ B with
  | bad => rw [h1] at q; exact q.elim
  | ok e1 B1 =>
    rw [h1, bind_ok] at q
    refine rdE_at s h1 fun v H01 H1 g1 s1 r1 => ?_
    cases h2 : m2 ρ B1 with
    | bad => rw [h2] at q; exact q.elim
    | ok e2 B2 =>
      rw [h2, bind_ok] at q
      cases hd1 : e1.data with
      | none => rw [hd1] at q; exact q.elim
      | some d1 =>
        obtain ⟨H02, gg2, s2, D1⟩ := s.data g1 s1 r1 hd1
        refine rdE_at s2 h2 fun y H03 H3 g3 s3 r3 => ?_
        cases hd2 : e2.data with
        | none => rw [hd1, hd2] at q; exact q.elim
        | some d2 =>
          obtain ⟨H04, g4, s4, D2⟩ := s2.data g3 s3 r3 hd2
          rw [hd1, hd2] at q
          simp only [Option.bind_some] at q
          cases hg : g d1 d2 with
          | none => rw [hg] at q; exact q.elim
          | some e =>
            rw [hg] at q
            simp only [Option.bind_some] at q
            cases hk : boolOf e with
            | none => rw [hk] at q; exact q.elim
            | some k =>
              rw [hk] at q
              refine ⟨H04, d1, d2, e, s4.hr.le, Dn.mono g4.l0 _ _ D1, D2, hg, fun z H5 n => ?_⟩
              obtain ⟨H05, g5, s5, r5⟩ := n.ok s4
              have gg := (gg2.trans g4).trans g5
              refine ⟨k, bool_inv r5 hk, ?_⟩
              cases k with
              | false =>
                have e0 : e = .sh (.bool false) := by
                  cases e with
                  | ow d => cases hk
                  | bg => cases hk
                  | sh d => cases d with
                    | bool k' => cases hk; rfl
                    | _ => cases hk
                exact q _ H05 H5 gg s5 (.bl false)
              | true =>
                show rdE m3 σ H5 _
                cases h3 : m3 ρ B2 with
                | bad => simp [h3] at q
                | ok e3 B3 =>
                  simp only [h3, bind_ok] at q
                  refine rdE_at s5 h3 fun z3 H06 H6 g6 s6 r6 => ?_
                  cases hd3 : e3.data with
                  | none => rw [hd3] at q; exact q.elim
                  | some d3 =>
                    obtain ⟨H07, g7, s7, D3⟩ := s5.data g6 s6 r6 hd3
                    rw [hd3] at q
                    cases hgg : g2 d2 d3 with
                    | none => simp [hgg] at q
                    | some ee =>
                      simp [hgg] at q
                      refine ⟨H07, d2, d3, ee, s7.hr.le, Dn.mono (g5.trans g7).l0 _ _ D2, D3, hgg, fun z8 H8 n8 => ?_⟩
                      obtain ⟨H08, g8, s8, r8⟩ := n8.ok s7
                      exact q z8 H08 H8 ((gg.trans g7).trans g8) s8 (r8.back (gg.trans g7))
theorem me_chain {op op' : CmpOp} {g g2 : PyData → PyData → Option EV} {d : Expr} (ho : OpR X (compareOp op) (rD2 g)) (ho' : OpR X (compareOp op') (rD2 g2)) (ha : ME X a m1) (hb : ME X c m2) (hc : ME X d m3)
    (hm : lastMarks [op, op'] [c, d] = false := by with_unfolding_all rfl) : ME X (.Compare a [op, op'] [c, d] pos) (eChain g g2 m1 m2 m3) := PE.weak (pe_chain ho ho' ha hb hc hm) fun _ _ _ => chain_rd
theorem mt_chain {op op' : CmpOp} {g g2 : PyData → PyData → Option EV} {d : Expr} (ho : OpR X (compareOp op) (rD2 g)) (ho' : OpR X (compareOp op') (rD2 g2)) (ha : ME X a m1) (hb : ME X c m2) (hc : ME X d m3)
    (hm : lastMarks [op, op'] [c, d] = false := by with_unfolding_all rfl) : MT X (.Compare a [op, op'] [c, d] pos) (tBool (eChain g g2 m1 m2 m3)) := PT.weak (pt_chain ho ho' ha hb hc hm) fun _ _ _ h => chain_rd (bool_rd h)
def inD (d : PyData) : PyData → Option Bool
  | .str z => match d with
    | .str ⟨⟨[c]⟩⟩ => some (decide (c ∈ z.cps.toList))
    | _ => none
  | .list ds => if okD d && okD (.list ds) then some (ds.any fun z => PyData.eqv z d) else none
  | .tuple ds => if okD d && okD (.tuple ds) then some (ds.any fun z => PyData.eqv z d) else none
  | _ => none
def gIn (d1 d2 : PyData) : Option EV := (inD d1 d2).map fun k => .sh (.bool k)
def gNotIn (d1 d2 : PyData) : Option EV := (inD d1 d2).map fun k => .sh (.bool (!k))
theorem in_core {neg : Bool} (hu : X.A.units + 64 < cLine) {pins : List (Addr × Obj)} {s : Shared} {σ : L2.St} {H H0 : Hp} {x y : V} {v u : Value} {Q : VK} {d1 d2 : PyData} {k : Bool} (I : Inv X pins σ H s) (rx : RelV x v) (ry : RelV y u) (l : Le H0 H) (r1 : Dn H0 x d1) (r2 : Dn H0 y d2)
    (hk : inD d1 d2 = some k) (q : Q (.bl (if neg then !k else k)) H) : wpAny (model X.prog X.w) X.A (compareOp (if neg then .NotIn else .In) v u) (EP X pins σ Q) X.xe s := by
  cases d2 with
  | str z =>
    simp only [inD] at hk
    split at hk
    · rename_i c
      cases hk; cases r1; cases r2
      cases neg with
      | true => exact op_notIn_sign pins s σ H _ _ v u Q I rx ry ⟨c, z, rfl, rfl, q⟩
      | false => exact op_in_sign pins s σ H _ _ v u Q I rx ry ⟨c, z, rfl, rfl, q⟩
    · cases hk
  | list ds =>
    simp only [inD] at hk
    split at hk
    · rename_i h
      cases hk
      obtain ⟨p1, p2, e1, e2⟩ := okD2 h
      obtain ⟨as, R1, _⟩ := Dn.reads I d1 x v (Dn.mono l _ _ r1) rx
      obtain ⟨bs, R2, _⟩ := Dn.reads I (.list ds) y u (Dn.mono l _ _ r2) ry
      simp only [PyData.depth] at e2
      have hm := Nat.min_le_right (PyData.depthAll ds) d1.depth
      cases neg with
      | true => exact SeqAt.notIn_list_data R2 R1 p2 p1 (by omega) ⟨.bl _, H, I, rfl, q⟩
      | false => exact SeqAt.in_list_data R2 R1 p2 p1 (by omega) ⟨.bl _, H, I, rfl, q⟩
    · cases hk
  | tuple ds =>
    simp only [inD] at hk
    split at hk
    · rename_i h
      cases hk
      obtain ⟨p1, p2, e1, e2⟩ := okD2 h
      obtain ⟨as, R1, _⟩ := Dn.reads I d1 x v (Dn.mono l _ _ r1) rx
      obtain ⟨bs, R2, _⟩ := Dn.reads I (.tuple ds) y u (Dn.mono l _ _ r2) ry
      have hm := Nat.min_le_right (PyData.depthAll ds) d1.depth
      cases neg with
      | true => exact SeqAt.notIn_tuple_data R2 R1 p2 p1 (by omega) ⟨.bl _, H, I, rfl, q⟩
      | false => exact SeqAt.in_tuple_data R2 R1 p2 p1 (by omega) ⟨.bl _, H, I, rfl, q⟩
    · cases hk
  | _ => cases hk
theorem op_inM (hu : X.A.units + 64 < cLine) : OpR X (compareOp .In) (rD2 gIn) := by
  intro pins s σ H x y v u Q I rx ry ⟨H0, d1, d2, e, l, r1, r2, hg, q⟩
  simp only [gIn, Option.map_eq_some_iff] at hg
  obtain ⟨k, hk, rfl⟩ := hg
  exact in_core (neg := false) hu I rx ry l r1 r2 hk (q _ _ nr_bl)
theorem op_notInM (hu : X.A.units + 64 < cLine) : OpR X (compareOp .NotIn) (rD2 gNotIn) := by
  intro pins s σ H x y v u Q I rx ry ⟨H0, d1, d2, e, l, r1, r2, hg, q⟩
  simp only [gNotIn, Option.map_eq_some_iff] at hg
  obtain ⟨k, hk, rfl⟩ := hg
  exact in_core (neg := true) hu I rx ry l r1 r2 hk (q _ _ nr_bl)
def gPow : PyData → PyData → Option EV
  | .int i, .int j => if 0 ≤ j ∧ j ≤ 1000000 ∧ i.natAbs < 2 ^ 64 then some (.sh (.int (i ^ j.toNat))) else none
  | _, _ => none
theorem op_powM : OpR X (binaryOp .Pow) (rD2 gPow) := by
  intro pins s σ H x y v u Q I rx ry ⟨H0, d1, d2, e, l, r1, r2, hg, q⟩
  cases d1 with
  | int i =>
    cases d2 with
    | int j =>
      simp only [gPow] at hg
      split at hg
      · cases hg; cases r1; cases r2; exact op_pow pins s σ H _ _ v u Q I rx ry ⟨i, j, rfl, rfl, by assumption, q _ _ nr_int⟩
      · cases hg
    | _ => cases hg
  | _ => cases hg
def gNeg : PyData → Option EV
  | .int i => some (.sh (.int (-i)))
  | _ => none
theorem un_negM : UnR X (unaryOp .USub) (rD1 gNeg) := by
  intro pins s σ H x v Q I rx ⟨H0, d1, e, l, r1, hg, q⟩
  cases d1 with
  | int i => cases hg; cases r1; exact un_neg pins s σ H _ v Q I rx ⟨i, rfl, q _ _ nr_int⟩
  | _ => cases hg
/-! ### list(x), tuple(x), {} -/
def gList : List PyData → Option EV
  | [.list ds] => some (.ow (.list ds))
  | [.tuple ds] => some (.ow (.list ds))
  | _ => none
theorem cr_listM : CallR X (.type "list") (rDA gList) := by
  intro pins s σ H vs us Q I r ⟨H0, ds, e, l, ra, hg, q⟩
  unfold gList at hg
  split at hg
  · cases hg
    obtain ⟨v, rfl, rv⟩ := ra.one
    obtain ⟨a1, zs, rfl, ha, al⟩ := rv.lst_inv
    exact call_list_of pins s σ H _ us Q I r ⟨a1, zs, rfl, .inl (.inl (.inl (l _ _ ha))), fun p hp => q _ _ ⟨p, _, _, rfl, rfl, hp, rfl, al⟩⟩
  · cases hg
    obtain ⟨v, rfl, rv⟩ := ra.one
    obtain ⟨a1, zs, rfl, ha, al⟩ := rv.tup_inv
    exact call_list_of pins s σ H _ us Q I r ⟨a1, zs, rfl, .inr (.inl (.inl (l _ _ ha))), fun p hp => q _ _ ⟨p, _, _, rfl, rfl, hp, rfl, al⟩⟩
  · cases hg
def gTuple : List PyData → Option EV
  | [.list ds] => some (.sh (.tuple ds))
  | [.tuple ds] => some (.sh (.tuple ds))
  | _ => none
theorem cr_tupleM : CallR X (.type "tuple") (rDA gTuple) := by
  intro pins s σ H vs us Q I r ⟨H0, ds, e, l, ra, hg, q⟩
  unfold gTuple at hg
  split at hg
  · cases hg
    obtain ⟨v, rfl, rv⟩ := ra.one
    obtain ⟨a1, zs, rfl, ha, al⟩ := rv.lst_inv
    exact call_tuple_of pins s σ H _ us Q I r ⟨a1, zs, rfl, .inl ⟨.inl (.inl (l _ _ ha)), fun p hp => q _ _ (.inr ⟨p, _, _, rfl, rfl, hp, rfl, al⟩)⟩⟩
  · cases hg
    obtain ⟨v, rfl, rv⟩ := ra.one
    have rv' := rv
    obtain ⟨a1, zs, rfl, ha, al⟩ := rv.tup_inv
    exact call_tuple_of pins s σ H _ us Q I r ⟨a1, zs, rfl, .inr ⟨.inl (.inl (l _ _ ha)), q _ _ (.inl ⟨rfl, rv'⟩)⟩⟩
  · cases hg
theorem me_dict0 : ME X (.Dict [] [] pos) (eC (.dict [])) := PE.weak pe_dnewK fun σ H Q ⟨b, He, H0e, ρ, B, H0, s, q⟩ p hp => by
  obtain ⟨g, s1⟩ := s.share (o := .dK []) hp
  exact q _ _ _ g s1 (.dct upd_same .nil)
/-! ### an owned list: an item, a store, insert, pop -/
def eIxO (i : Nat) (m : EM) : EM := fun ρ B => (m ρ B).bind fun e B1 => match intOf e, ρ[i]? with
  | some k, some (some (.ow (.list ds))) => liftO ((atI ds k).map .sh) B1
  | _, _ => .bad
theorem me_ixO {i : Nat} {x : Str} {xp : Pos} (hx : PE X (.Name x xp) (tVar i)) (he : ME X e m) (hs : PlainIx e := by intro _ _; rfl) : ME X (.Subscript (.Name x xp) e pos) (eIxO i m) :=
  PE.weak (pe_ix ix_list hx he hs) fun σ H Q ⟨b, He, H0e, ρ, B, H0, s, q⟩ => by
    unfold eIxO at q
    cases h1 : m ρ B with
    | bad => rw [h1] at q; exact q.elim
    | ok e1 B1 =>
      rw [h1, bind_ok] at q
      cases hi : intOf e1 with
      | none => simp [hi] at q
      | some k =>
        simp only [hi] at q
        cases hρ : ρ[i]? with
        | none => simp [hρ] at q
        | some o =>
          simp only [hρ] at q
          cases o with
          | none => exact q.elim
          | some ev =>
            cases ev with
            | sh d => exact q.elim
            | bg => exact q.elim
            | ow d =>
              cases d with
              | list ds =>
                simp only at q
                cases hat : atI ds k with
                | none => rw [hat] at q; exact q.elim
                | some d =>
                  simp only [hat, Option.map_some, liftO_some] at q
                  obtain ⟨v, hv, p, vs, ds', rfl, nb, hpe, h0, e2, hH, al⟩ := s.slot i _ hρ
                  cases e2
                  refine ⟨_, hv, rdE_at s h1 fun y H01 H1 g1 s1 r1 => ?_⟩
                  obtain rfl := intOf_inv r1 hi
                  obtain ⟨z, hz, rz⟩ := (DnAll.mono g1.l0 _ _ al).at hat
                  exact ⟨p, vs, k, z, rfl, rfl, .inl (.inl (g1.kp _ _ nb hH)), hz, q z H01 H1 g1 s1 rz⟩
              | _ => exact q.elim
def sStO (i : Nat) (mi me : EM) : SM := fun ρ B => (me ρ B).bind fun e B1 => (mi ρ B1).bind fun ei B2 => match e.data, intOf ei, ρ[i]? with
  | some d, some k, some (some (.ow (.list ds))) => (match ixN ds.length k with
    | some j => .ok (.nx (ρ.set i (some (.ow (.list (ds.set j d)))))) B2
    | none => .bad)
  | _, _, _ => .bad
theorem DnAll.setD {H : Hp} : ∀ {vs : List V} {ds : List PyData} (j : Nat) {v : V} {d : PyData}, DnAll H vs ds → Dn H v d → DnAll H (vs.set j v) (ds.set j d)
  | [], _, _, _, _, h, _ => by cases h; exact .nil
  | _ :: vs, _, 0, _, _, h, r => by
    cases h with
    | cons a b => exact .cons r b
  | _ :: vs, _, j + 1, _, _, h, r => by
    cases h with
    | cons a b => exact .cons a (b.setD j r)
theorem ms_stO {i : Nat} {x : Str} {xp tp : Pos} {ix : Expr} {mi me : EM} (hx : PE X (.Name x xp) (tVar i)) (hi : ME X ix mi) (he : ME X e me)
    (ha : ∀ v, assign (.Subscript (.Name x xp) ix tp) X.env v = (do
      let ov ← holding [v] (eval (.Name x xp) X.env)
      let iv ← holding [v, ov] (eval ix X.env)
      standAt tp
      holding [v, ov, iv] (setItem ov iv v)
      release [v, ov, iv] []) := by intro _; rfl)
    (hs : swapsWithSole [.Subscript (.Name x xp) ix tp] e pos.line X.env = pure false := by rfl)
    (hw : swappedStores [.Subscript (.Name x xp) ix tp] e X.env = pure none := by rfl)
    (h1 : (assignEach [.Subscript (.Name x xp) ix tp] X.env).map (·.2) = [assign (.Subscript (.Name x xp) ix tp) X.env] := by rfl) :
    MS X (.Assign [.Subscript (.Name x xp) ix tp] e pos) (sStO i mi me) :=
  PS.weak (ps_asg he (pg_sub hx hi set_list ha) hs hw h1) fun D σ H ⟨b, He, H0e, ρ, B, H0, s, q⟩ => by
    unfold sStO at q
    cases h1 : me ρ B with
    | bad => rw [h1] at q; exact q.elim
    | ok e1 B1 =>
      rw [h1, bind_ok] at q
      refine rdE_at s h1 fun v H01 H1 g1 s1 r1 => ?_
      cases h2 : mi ρ B1 with
      | bad => rw [h2] at q; exact q.elim
      | ok e2 B2 =>
        rw [h2, bind_ok] at q
        cases hd : e1.data with
        | none => simp only [hd] at q; exact q.elim
        | some d =>
          obtain ⟨H02, g2, s2, D1⟩ := s.data g1 s1 r1 hd
          cases hk : intOf e2 with
          | none => simp [hd, hk] at q <;> exact q.elim
          | some k =>
            cases hρ : ρ[i]? with
            | none => simp [hd, hk, hρ] at q <;> exact q.elim
            | some o =>
              simp only [hd, hk, hρ] at q
              match o, hρ, q with
              | some (.ow (.list ds)), hρ, q =>
                simp only at q
                cases hj : ixN ds.length k with
                | none => rw [hj] at q; exact q.elim
                | some j =>
                  rw [hj] at q
                  obtain ⟨w, hw, _⟩ := s2.slot i _ hρ
                  refine ⟨w, hw, rdE_at s2 h2 fun y H03 H3 g3 s3 r3 => ?_⟩
                  obtain rfl := intOf_inv r3 hk
                  obtain ⟨w', hw', p, vs, ds', rfl, nb, hpe, h0, e4, hH, al⟩ := s3.slot i _ hρ
                  rw [hw] at hw'; cases hw'; cases e4
                  refine ⟨p, vs, k, j, rfl, rfl, hH, by rw [al.length]; exact hj, ?_⟩
                  exact q σ H03 _ (g2.trans g3).l0 (s3.updO hρ hw (al.setD j (Dn.mono g3.l0 _ _ D1)))
              | none, _, q => exact q.elim
              | some (.sh _), _, q => exact q.elim
              | some .bg, _, q => exact q.elim
              | some (.ow .none), _, q => exact q.elim
              | some (.ow (.bool _)), _, q => exact q.elim
              | some (.ow (.int _)), _, q => exact q.elim
              | some (.ow (.str _)), _, q => exact q.elim
              | some (.ow (.tuple _)), _, q => exact q.elim
              | some (.ow (.dict _)), _, q => exact q.elim

def insD {α : Type} (xs : List α) (k : Int) (x : α) : List α := xs.take k.toNat ++ [x] ++ xs.drop k.toNat
def sInsO (i : Nat) (mi me : EM) : SM := fun ρ B => (mi ρ B).bind fun ei B1 => (me ρ B1).bind fun e B2 => match intOf ei, e.data, ρ[i]? with
  | some k, some d, some (some (.ow (.list ds))) => if ds.length < sizeLine ∧ 0 ≤ k ∧ k < 2 ^ 63 then .ok (.nx (ρ.set i (some (.ow (.list (insD ds k d)))))) B2 else .bad
  | _, _, _ => .bad
theorem ow_cases (o : Option EV) : (∃ ds, o = some (.ow (.list ds))) ∨ ∀ ds, o ≠ some (.ow (.list ds)) := by
  match o with
  | some (.ow (.list ds)) => exact .inl ⟨ds, rfl⟩
  | none => exact .inr fun _ => nofun
  | some (.sh _) => exact .inr fun _ => nofun
  | some .bg => exact .inr fun _ => nofun
  | some (.ow .none) => exact .inr fun _ => nofun
  | some (.ow (.bool _)) => exact .inr fun _ => nofun
  | some (.ow (.int _)) => exact .inr fun _ => nofun
  | some (.ow (.str _)) => exact .inr fun _ => nofun
  | some (.ow (.tuple _)) => exact .inr fun _ => nofun
  | some (.ow (.dict _)) => exact .inr fun _ => nofun
theorem ms_insO {i : Nat} {x : Str} {xp apos cpos : Pos} {ix : Expr} {mi me : EM} (hx : PE X (.Name x xp) (tVar i)) (hi : ME X ix mi) (he : ME X e me)
    (hbase : attributeBase (.Name x xp) "insert" X.env (eval (.Name x xp) X.env) = eval (.Name x xp) X.env := by rfl)
    (hfew : ((backTo cpos (starEach [ix, e] X.env)).all (fun x => !x.1) && (backToKw cpos (keywordEach [] X.env)).all (fun x => x.1.isSome)
      && decide ([ix, e].length + ([] : List Keyword).length + (if ([] : List Keyword).isEmpty then 0 else 1) < 30)) = true := by rfl)
    (hline : (apos.endLine == cpos.line) = true := by rfl) (hs : starEach [ix, e] X.env = (false, eval ix X.env) :: starEach [e] X.env := by rfl) (hs2 : starEach [e] X.env = (false, eval e X.env) :: starEach [] X.env := by rfl) (hplain : (backTo cpos (starEach [e] X.env)).any (·.1) = false := by rfl)
    (hsw : swapsWith (.Call (.Attribute (.Name x xp) "insert" apos) [ix, e] [] cpos) none pos.line X.env = pure false := by rfl) :
    MS X (.Expr (.Call (.Attribute (.Name x xp) "insert" apos) [ix, e] [] cpos) pos) (sInsO i mi me) :=
  PS.weak (ps_expr (pe_bm PySem.F.plainAttrs_list PySem.F.slot_list_insert PySem.F.type_list_insert mt_insert hx (pa_cons hi (pa_cons he pa_nil hs2) hs) hbase hfew hline hs hplain) hsw) fun D σ H ⟨b, He, H0e, ρ, B, H0, s, q⟩ => by
    unfold sInsO at q
    cases h1 : mi ρ B with
    | bad => rw [h1] at q; exact q.elim
    | ok e1 B1 =>
      rw [h1, bind_ok] at q
      cases h2 : me ρ B1 with
      | bad => rw [h2] at q; exact q.elim
      | ok e2 B2 =>
        rw [h2, bind_ok] at q
        cases hk : intOf e1 with
        | none => simp [hk] at q <;> exact q.elim
        | some k =>
          cases hd : e2.data with
          | none => simp [hd, hk] at q <;> exact q.elim
          | some d =>
            cases hρ : ρ[i]? with
            | none => simp [hd, hk, hρ] at q <;> exact q.elim
            | some o =>
              rcases ow_cases o with ⟨ds, rfl⟩ | ho
              · simp only [hd, hk, hρ] at q
                by_cases hl : ds.length < sizeLine ∧ 0 ≤ k ∧ k < 2 ^ 63
                · rw [if_pos hl] at q
                  obtain ⟨w, hw, p, vs, ds', rfl, nb, hpe, h0, e4, hH, al⟩ := s.slot i _ hρ
                  cases e4
                  refine ⟨_, hw, .inl ⟨rfl, vs, .inl (.inl hH)⟩, rdE_at s h1 fun v H01 H1 g1 s1 r1 => rdE_at s1 h2 fun y H02 H2 g2 s2 r2 => ?_⟩
                  obtain rfl := intOf_inv r1 hk
                  obtain ⟨H03, g3, s3, D3⟩ := s1.data g2 s2 r2 hd
                  obtain ⟨w', hw', p', vs', ds'', e5, _, _, _, e6, hH', al'⟩ := s3.slot i _ hρ
                  rw [hw] at hw'; cases hw'; cases e5; cases e6
                  refine ⟨p, vs', k, y, rfl, rfl, hH', by rw [al'.length]; exact hl.1, hl.2.1, hl.2.2, ?_⟩
                  exact q σ H03 _ (g1.trans g3).l0 (s3.updO hρ hw (((al'.take _).append (.cons D3 .nil)).append (al'.drop _)))
                · rw [if_neg hl] at q; exact q.elim
              · exfalso
                revert q
                simp only [hd, hk, hρ]
                split
                · exact absurd (Option.some.inj ‹_›) (ho _)
                · exact fun z => z
def sPopO (i : Nat) (mi : EM) : SM := fun ρ B => (mi ρ B).bind fun ei B1 => match intOf ei, ρ[i]? with
  | some k, some (some (.ow (.list ds))) => if 0 ≤ k ∧ k < ds.length ∧ k < 2 ^ 63 then .ok (.nx (ρ.set i (some (.ow (.list (ds.eraseIdx k.toNat)))))) B1 else .bad
  | _, _ => .bad
theorem DnAll.erase {H : Hp} : ∀ {vs : List V} {ds : List PyData} (j : Nat), DnAll H vs ds → DnAll H (vs.eraseIdx j) (ds.eraseIdx j)
  | [], _, _, h => by cases h; exact .nil
  | _ :: vs, _, 0, h => by
    cases h with
    | cons a b => exact b
  | _ :: vs, _, j + 1, h => by
    cases h with
    | cons a b => exact .cons a (b.erase j)
theorem ms_popO {i : Nat} {x : Str} {xp apos cpos : Pos} {ix : Expr} {mi : EM} (hx : PE X (.Name x xp) (tVar i)) (hi : ME X ix mi)
    (hbase : attributeBase (.Name x xp) "pop" X.env (eval (.Name x xp) X.env) = eval (.Name x xp) X.env := by rfl)
    (hfew : ((backTo cpos (starEach [ix] X.env)).all (fun x => !x.1) && (backToKw cpos (keywordEach [] X.env)).all (fun x => x.1.isSome)
      && decide ([ix].length + ([] : List Keyword).length + (if ([] : List Keyword).isEmpty then 0 else 1) < 30)) = true := by rfl)
    (hline : (apos.endLine == cpos.line) = true := by rfl) (hs : starEach [ix] X.env = (false, eval ix X.env) :: starEach [] X.env := by rfl) (hplain : (backTo cpos (starEach [] X.env)).any (·.1) = false := by rfl)
    (hsw : swapsWith (.Call (.Attribute (.Name x xp) "pop" apos) [ix] [] cpos) none pos.line X.env = pure false := by rfl) :
    MS X (.Expr (.Call (.Attribute (.Name x xp) "pop" apos) [ix] [] cpos) pos) (sPopO i mi) :=
  PS.weak (ps_expr (pe_bm PySem.F.plainAttrs_list PySem.F.slot_list_pop PySem.F.type_list_pop mt_popAt hx (pa_cons hi pa_nil hs) hbase hfew hline hs hplain) hsw) fun D σ H ⟨b, He, H0e, ρ, B, H0, s, q⟩ => by
    unfold sPopO at q
    cases h1 : mi ρ B with
    | bad => rw [h1] at q; exact q.elim
    | ok e1 B1 =>
      rw [h1, bind_ok] at q
      cases hk : intOf e1 with
      | none => simp [hk] at q <;> exact q.elim
      | some k =>
        cases hρ : ρ[i]? with
        | none => simp [hk, hρ] at q <;> exact q.elim
        | some o =>
          rcases ow_cases o with ⟨ds, rfl⟩ | ho
          · simp only [hk, hρ] at q
            by_cases hl : 0 ≤ k ∧ k < ds.length ∧ k < 2 ^ 63
            · rw [if_pos hl] at q
              obtain ⟨w, hw, p, vs, ds', rfl, nb, hpe, h0, e4, hH, al⟩ := s.slot i _ hρ
              cases e4
              refine ⟨_, hw, .inl ⟨rfl, vs, .inl (.inl hH)⟩, rdE_at s h1 fun v H01 H1 g1 s1 r1 => ?_⟩
              obtain rfl := intOf_inv r1 hk
              obtain ⟨w', hw', p', vs', ds'', e5, _, _, _, e6, hH', al'⟩ := s1.slot i _ hρ
              rw [hw] at hw'; cases hw'; cases e5; cases e6
              have hlen := al'.length
              have hlt : k.toNat < vs'.length := by omega
              refine ⟨p, vs', k, k.toNat, vs'[k.toNat], rfl, rfl, hH', by omega, hl.2.2, ?_, List.getElem?_eq_getElem hlt, ?_⟩
              · unfold seqIndex?
                have a1 : ¬ k < 0 := by omega
                have a2 : k < (vs'.length : Int) := by omega
                simp [a1, hl.1, a2]
              · exact q σ H01 _ g1.l0 (s1.updO hρ hw (al'.erase _))
            · rw [if_neg hl] at q; exact q.elim
          · exfalso
            revert q
            simp only [hk, hρ]
            split
            · exact absurd (Option.some.inj ‹_›) (ho _)
            · exact fun z => z
/-! ### isinstance of two types; join -/
def tyN : PyData → String
  | .none => "NoneType"
  | .bool _ => "bool"
  | .int _ => "int"
  | .str _ => "str"
  | .list _ => "list"
  | .tuple _ => "tuple"
  | .dict _ => "dict"
theorem Dn.ty {K : PySem.W.Frag} {H : Hp} {v : V} {d : PyData} (h : Dn H v d) : TyX K H v (.type (tyN d)) := by
  cases h with
  | non => exact .base .non
  | bl b => exact .base (.bl b)
  | int i => exact .base (.int i)
  | str x => exact .base (.str x)
  | lst e a => exact .base (.lst e)
  | tup e a => exact .base (.tup e)
  | dct e a => exact .base (.dK e)
def isLT (d : PyData) : Bool := d.isList || d.isTuple
theorem kit_lt (K : PySem.W.Frag) (d : PyData) : PySem.W.kitAny K (.type (tyN d)) [.type "list", .type "tuple"] = some (isLT d) := by
  have go : ∀ (t : String) (b1 b2 : Bool), kitB t "list" = some b1 → kitB t "tuple" = some b2 → PySem.W.kitAny K (.type t) [.type "list", .type "tuple"] = some (b1 || b2) := by
    intro t b1 b2 h1 h2
    refine kitAny_cons (kit_ty h1) (fun e => ?_) (fun e => by rw [e]; rfl)
    refine kitAny_cons (kit_ty h2) (fun e2 => ?_) (fun e2 => by rw [e, e2]; rfl)
    rw [e, e2]; rfl
  cases d with
  | none => exact go "NoneType" false false (by decide +kernel) (by decide +kernel)
  | bool b => exact go "bool" false false (by decide +kernel) (by decide +kernel)
  | int b => exact go "int" false false (by decide +kernel) (by decide +kernel)
  | str b => exact go "str" false false (by decide +kernel) (by decide +kernel)
  | list b => exact go "list" true false (by decide +kernel) (by decide +kernel)
  | tuple b => exact go "tuple" false true (by decide +kernel) (by decide +kernel)
  | dict b => exact go "dict" false false (by decide +kernel) (by decide +kernel)
theorem me_isiLT {m : EM} {p p1 p2 p3 : Pos} {kk} (hg : Gl X "isinstance") (hm : X.mg "isinstance" = none) (ha : ME X a m) (hg1 : Gl X "list") (hm1 : X.mg "list" = none) (hg2 : Gl X "tuple") (hm2 : X.mg "tuple" = none)
    (he : starEach [a, .Tuple [.Name "list" p1, .Name "tuple" p2] kk p3] X.env = (false, eval a X.env) :: starEach [.Tuple [.Name "list" p1, .Name "tuple" p2] kk p3] X.env := by rfl)
    (he2 : starEach [.Tuple [.Name "list" p1, .Name "tuple" p2] kk p3] X.env = (false, eval (.Tuple [.Name "list" p1, .Name "tuple" p2] kk p3) X.env) :: starEach [] X.env := by rfl)
    (hpl : (backTo pos (starEach [.Tuple [.Name "list" p1, .Name "tuple" p2] kk p3] X.env)).any (·.1) = false := by rfl)
    (h3 : starEach [.Name "list" p1, .Name "tuple" p2] X.env = (false, eval (.Name "list" p1) X.env) :: starEach [.Name "tuple" p2] X.env := by rfl)
    (h4 : starEach [.Name "tuple" p2] X.env = (false, eval (.Name "tuple" p2) X.env) :: starEach [] X.env := by rfl) :
    ME X (.Call (.Name "isinstance" p) [a, .Tuple [.Name "list" p1, .Name "tuple" p2] kk p3] [] pos) (eUn (fun d => some (.sh (.bool (isLT d)))) m) :=
  PE.weak (pe_callB call_isiT hg hm PyProof.Rows.boot_isinstance (pa_cons ha (pa_cons (pe_tup (pa_cons (pe_bltn hg1 hm1 PyProof.Rows.boot_list (v := .ty "list") rfl) (pa_cons (pe_bltn hg2 hm2 PyProof.Rows.boot_tuple (v := .ty "tuple") rfl) pa_nil h4) h3)) pa_nil he2) he) (by decide) (by decide) he hpl) fun σ H Q ⟨b, He, H0e, ρ, B, H0, s, q⟩ => by
    unfold eUn at q
    cases h1 : m ρ B with
    | bad => rw [h1] at q; exact q.elim
    | ok e1 B1 =>
      rw [h1, bind_ok] at q
      refine rdE_at s h1 fun v H01 H1 g1 s1 r1 => ?_
      cases hd1 : e1.data with
      | none => rw [hd1] at q; exact q.elim
      | some d1 =>
        obtain ⟨H02, g2, s2, D1⟩ := s.data g1 s1 r1 hd1
        rw [hd1] at q
        simp only [Option.bind_some, liftO_some] at q
        refine ⟨by show 2 ≤ sizeLine; decide, fun t ht => ?_⟩
        obtain ⟨g3, s3⟩ := s2.fresh (o := .tup [V.ty "list", V.ty "tuple"]) ht
        exact ⟨v, t, _, _, _, isLT d1, rfl, upd_same, .cons (.ty _) (.cons (.ty _) .nil), Dn.ty (Dn.mono (s2.hr.le.trans (Le.new ht)) _ _ D1), kit_lt _ _, q _ H02 _ (g2.trans g3) s3 (.bl _)⟩
def strsD : List PyData → Option (List Str)
  | [] => some []
  | .str b :: r => (strsD r).map (b :: ·)
  | _ => none
theorem DnAll.strsM {H : Hp} : ∀ {vs : List V} {ds : List PyData} {bs : List Str}, DnAll H vs ds → strsD ds = some bs → vs = bs.map V.str
  | [], _, _, h, e => by cases h; cases e; rfl
  | v :: vs, _, bs, h, e => by
    cases h with
    | cons a b =>
      rename_i d ds
      cases d with
      | str k =>
        simp only [strsD, Option.map_eq_some_iff] at e
        obtain ⟨bs', e1, rfl⟩ := e
        rw [a.str_inv, b.strsM e1]
        rfl
      | _ => cases e
def gJoin (z : Str) : PyData → Option EV
  | .list ds => (strsD ds).bind fun ys => if (ys.map (·.length)).sum + ys.length * z.length ≤ 16777216 then some (.sh (.str (Txt.join z ys))) else none
  | _ => none
theorem me_join {z : Str} {c0} {xp apos : Pos} (he : ME X e m)
    (hbase : attributeBase (.Constant (.str z) c0 xp) "join" X.env (eval (.Constant (.str z) c0 xp) X.env) = eval (.Constant (.str z) c0 xp) X.env := by rfl)
    (hfew : ((backTo pos (starEach [e] X.env)).all (fun x => !x.1) && (backToKw pos (keywordEach [] X.env)).all (fun x => x.1.isSome)
      && decide ([e].length + ([] : List Keyword).length + (if ([] : List Keyword).isEmpty then 0 else 1) < 30)) = true := by rfl)
    (hline : (apos.endLine == pos.line) = true := by rfl) (hs : starEach [e] X.env = (false, eval e X.env) :: starEach [] X.env := by rfl) (hplain : (backTo pos (starEach [] X.env)).any (·.1) = false := by rfl) :
    ME X (.Call (.Attribute (.Constant (.str z) c0 xp) "join" apos) [e] [] pos) (eUn (gJoin z) m) :=
  PE.weak (pe_bm PySem.F.plainAttrs_str PySem.F.slot_str_join PySem.F.type_str_join mt_join pe_str (pa_cons he pa_nil hs) hbase hfew hline hs hplain) fun σ H Q ⟨b, He, H0e, ρ, B, H0, s, q⟩ => by
    unfold eUn at q
    cases h1 : m ρ B with
    | bad => rw [h1] at q; exact q.elim
    | ok e1 B1 =>
      rw [h1, bind_ok] at q
      refine ⟨rfl, rdE_at s h1 fun v H01 H1 g1 s1 r1 => ?_⟩
      cases hd1 : e1.data with
      | none => rw [hd1] at q; exact q.elim
      | some d1 =>
        obtain ⟨H02, g2, s2, D1⟩ := s.data g1 s1 r1 hd1
        rw [hd1] at q
        cases d1 with
        | list ds =>
          simp only [Option.bind_some, gJoin] at q
          cases hy : strsD ds with
          | none => rw [hy] at q; exact q.elim
          | some ys =>
            simp only [hy, Option.bind_some] at q
            obtain ⟨a1, zs, rfl, ha, al⟩ := D1.lst_inv
            have := al.strsM hy
            subst this
            by_cases hl : (ys.map (·.length)).sum + ys.length * z.length ≤ 16777216
            · rw [if_pos hl] at q
              exact ⟨z, a1, ys, rfl, rfl, .inl (.inl (.inl (s2.hr.le _ _ ha))), hl, q _ H02 H1 g2 s2 (.str _)⟩
            · rw [if_neg hl] at q; exact q.elim
        | _ => exact q.elim
end
end Mr
namespace Mr
open PySem PySem.Spec PyProof.Rows L2
section
variable {X : Cx} {a c e : Expr} {es : List Expr} {m m1 m2 m3 : EM} {pos : Pos}
def isOw (ρ : Env) (i : Nat) : Bool := match ρ[i]? with
  | some (some (.ow _)) => true
  | _ => false
/-- an item of a list that may be owned or shared -/
def eIxV (i : Nat) (m : EM) : EM := fun ρ B => if isOw ρ i then eIxO i m ρ B else eBin gIx (eVar i) m ρ B
theorem me_ixV {i : Nat} {x : Str} {xp : Pos} (hx : PE X (.Name x xp) (tVar i)) (he : ME X e m) (hs : PlainIx e := by intro _ _; rfl) : ME X (.Subscript (.Name x xp) e pos) (eIxV i m) :=
  ⟨fun pins s0 σ H Q I ⟨b, He, H0e, ρ, B, H0, s, q⟩ => by
    unfold eIxV at q
    by_cases h : isOw ρ i = true
    · rw [if_pos h] at q
      exact (me_ixO hx he hs).run pins s0 σ H Q I ⟨b, He, H0e, ρ, B, H0, s, q⟩
    · rw [if_neg h] at q
      exact (me_ix (me_var i hx) he hs).run pins s0 σ H Q I ⟨b, He, H0e, ρ, B, H0, s, q⟩⟩
/-- x += e, ints -/
def sAug (i : Nat) (f : Int → Int → Int) (m : EM) : SM := fun ρ B => match ρ[i]? with
  | some (some (.sh (.int x))) => (m ρ B).bind fun e B1 => (match intOf e with
    | some y => .ok (.nx (ρ.set i (some (.sh (.int (f x y)))))) B1
    | none => .bad)
  | _ => .bad
theorem aug_rd {i : Nat} {f : Int → Int → Int} {D : Ends} {σ : L2.St} {H : Hp} (h : rdS (sAug i f m) D σ H) : tAug i (rdE m) (ipI f) D σ H := by
  obtain ⟨b, He, H0e, ρ, B, H0, s, q⟩ := h
  unfold sAug at q
  split at q
  · rename_i x hρ
    obtain ⟨v, hv, r⟩ := s.slot i _ hρ
    obtain rfl := Dn.int_inv r
    refine ⟨_, hv, ?_⟩
    cases h1 : m ρ B with
    | bad => rw [h1] at q; exact q.elim
    | ok e1 B1 =>
      rw [h1, bind_ok] at q
      refine rdE_at s h1 fun y H01 H1 g1 s1 r1 => ?_
      cases hi : intOf e1 with
      | none => simp [hi] at q <;> exact q.elim
      | some k =>
        simp only [hi] at q
        obtain rfl := intOf_inv r1 hi
        exact ⟨x, k, rfl, rfl, q _ H01 H1 g1.l0 (s1.set (List.getElem?_eq_some_iff.mp hρ).1 (.int _) fun d hd => nomatch hd)⟩
  · exact q.elim
theorem ms_aug {i : Nat} {x : Str} {pos' : Pos} (hN : X.N.Nodup) (hi : X.N[i]? = some x) (hx : Loc X.env.scope x) (he : ME X e m) (hf : X.fn x = true ∨ X.env.scope.names.lookup x = some .local := by first | exact .inl rfl | exact .inr rfl | assumption) :
    MS X (.AugAssign (.Name x pos') .Add e pos) (sAug i (fun i j => i + j) m) := PS.weak (ps_aug hN hi hx he ip_add hf) fun _ _ _ => aug_rd
theorem ms_augS {i : Nat} {x : Str} {pos' : Pos} (hN : X.N.Nodup) (hi : X.N[i]? = some x) (hx : Loc X.env.scope x) (he : ME X e m) (hf : X.fn x = true ∨ X.env.scope.names.lookup x = some .local := by first | exact .inl rfl | exact .inr rfl | assumption) :
    MS X (.AugAssign (.Name x pos') .Sub e pos) (sAug i (fun i j => i - j) m) := PS.weak (ps_aug hN hi hx he ip_sub hf) fun _ _ _ => aug_rd
end
/-- a name is stored, what is new is shared at once -/
def sSetS (i : Nat) (m : EM) : SM := fun ρ B => (m ρ B).bind fun e B1 => if i < ρ.length then .ok (.nx (ρ.set i (some e.share))) B1 else .bad
theorem setS_rd {m : EM} {i : Nat} {te : TE} {D : Ends} {σ : L2.St} {H : Hp} (ht : ∀ σ H Q, rdE m σ H Q → te σ H Q) (h : rdS (sSetS i m) D σ H) : tAsg te (gName i) D σ H := by
  obtain ⟨b, He, H0e, ρ, B, H0, s, q⟩ := h
  unfold sSetS at q
  cases h1 : m ρ B with
  | bad => rw [h1] at q; exact q.elim
  | ok e1 B1 =>
    rw [h1, bind_ok] at q
    refine ht _ _ _ (rdE_at s h1 fun v H01 H1 g1 s1 r1 => ?_)
    by_cases hi : i < ρ.length
    · rw [if_pos hi] at q
      cases hd : e1.data with
      | none =>
        have e2 : e1 = .bg := by cases e1 <;> first | rfl | cases hd
        subst e2
        exact q _ H01 H1 g1.l0 (s1.set hi r1 fun d hd => nomatch hd)
      | some d =>
        obtain ⟨H02, g2, s2, D1⟩ := s.data g1 s1 r1 hd
        have e2 : e1.share = .sh d := by cases e1 <;> cases hd <;> rfl
        rw [e2] at q
        exact q _ H02 H1 g2.l0 (s2.set hi D1 fun d hd => nomatch hd)
    · rw [if_neg hi] at q; exact q.elim
section
variable {X : Cx} {e tg iter elt : Expr} {ifs : List Expr} {m : EM} {pos : Pos}
theorem ms_setS {i : Nat} {x : Str} {pos' : Pos} (hN : X.N.Nodup) (hi : X.N[i]? = some x) (hx : Loc X.env.scope x) (he : ME X e m) (hs : swapsWith e (some (.Name x pos')) pos.line X.env = pure false := by rfl) (hf : X.fn x = true ∨ X.env.scope.names.lookup x = some .local := by first | exact .inl rfl | exact .inr rfl | assumption) :
    MS X (.Assign [.Name x pos'] e pos) (sSetS i m) := PS.weak (ps_set hN hi hx he hs hf) fun _ _ _ => setS_rd fun _ _ _ h => h
theorem ms_setLcS {i : Nat} {y : Str} {py spos : Pos} {scope : Scope} {own : List (Str × Nat)} {is : List Nat} {mi : IM} {f : PyData → Mr.Env → Option Mr.Env} {tt : TM} {me : EM} (hc : X.calm = true) (hN : X.N.Nodup) (hy : X.N[i]? = some y) (hyl : X.env.scope.names.lookup y = some .local)
    (hsw : swapsWith (.ListComp elt [⟨tg, iter, ifs, 0⟩] scope pos) (some (.Name y py)) spos.line X.env = pure true) (hi : MI X tg iter mi) (ok : BlkOk X.N X.env.scope scope own)
    (hs : ∀ i ∈ is, i ∈ own.map (·.2))
    (hg : ∀ (s : Shared) (H : Hp) (C : Addr) (cl : List (Str × Addr)) (fp : List Addr), MG (X.blk s H scope (compEnvC scope cl C X.env) fp) tg is f) (ht : ∀ (s : Shared) (H : Hp) (C : Addr) (cl : List (Str × Addr)) (fp : List Addr), MTs (X.blk s H scope (compEnvC scope cl C X.env) fp) ifs tt)
    (he : ∀ (s : Shared) (H : Hp) (C : Addr) (cl : List (Str × Addr)) (fp : List Addr), ME (X.blk s H scope (compEnvC scope cl C X.env) fp) elt me) (hf : ∀ x, foldedSetIterable iter X.env x = pure x := by intro _; rfl) :
    MS X (.Assign [.Name y py] (.ListComp elt [⟨tg, iter, ifs, 0⟩] scope pos) spos) (sSetS i (eComp (own.map (·.2)) mi f tt me)) := PS.weak (ps_setLc hc hN hy hyl hsw hi ok hg ht he hf) fun _ _ _ => setS_rd fun _ _ _ => comp_rd hs
end
/-- the slots are shared behind the statement -/
def sFrzA (is : List Nat) (m : SM) : SM := fun ρ B => match m ρ B with
  | .ok (.nx ρ') B' => .ok (.nx (frzE ρ' is)) B'
  | o => o
theorem ms_frzA {X : Cx} {st : Stmt} {m : SM} (is : List Nat) (h : MS X st m) : MS X st (sFrzA is m) := PS.weak h fun D σ H ⟨b, He, H0e, ρ, B, H0, s, q⟩ => by
  refine ⟨b, He, H0e, ρ, B, H0, s, ?_⟩
  unfold sFrzA at q
  cases h1 : m ρ B with
  | bad => rw [h1] at q; exact q.elim
  | ok fl B1 =>
    rw [h1] at q
    cases fl with
    | nx ρ1 =>
      intro σ' H0' H' l s'
      obtain ⟨H2, l2, s2⟩ := s'.frzE is
      exact q σ' H2 H' (l.trans l2) s2
    | rt e => exact q
    | bk ρ1 => exact q
    | ct ρ1 => exact q
/-- a def of which nothing is said -/
theorem FnM.none {P : Program} {w : World} {K : PySem.W.Frag} {mg : Str → Option Value} {base : Heap} {x qual : Str} {st : Stmt} {f : Addr} {fd : FuncData} {ps : List Str} {k n : Nat} (F : Fun K x qual st f fd) (hm : mg x = some (.ref f)) (hb : Binds K fd ps []) : FnM P w K mg base k x n (fun _ _ => .bad) :=
  ⟨f, fd, ps, ⟨fun vs h q e z => by obtain ⟨b, B, H0, es, _, _, _, z⟩ := z; exact z.elim, fun A out s h gs us xs q e _ _ _ _ _ z => by obtain ⟨b, B, H0, es, _, _, _, z⟩ := z; exact z.elim⟩, hm, F.kp, hb⟩
/-- the built-in names that the module does not bind -/
structure Bl (mg : Str → Option Value) : Prop where
  len_ : mg "len" = none
  abs_ : mg "abs" = none
  sorted_ : mg "sorted" = none
  repr_ : mg "repr" = none
  min_ : mg "min" = none
  max_ : mg "max" = none
  all_ : mg "all" = none
  any_ : mg "any" = none
  sum_ : mg "sum" = none
  int_ : mg "int" = none
  list_ : mg "list" = none
  tuple_ : mg "tuple" = none
  bool_ : mg "bool" = none
  str_ : mg "str" = none
  dict_ : mg "dict" = none
  range_ : mg "range" = none
  zip_ : mg "zip" = none
  enumerate_ : mg "enumerate" = none
  isinstance_ : mg "isinstance" = none
end Mr
namespace Mr
open PySem PySem.Spec PyProof.Rows L2
/-! ### plain lemmas over mirrors -/
theorem small9 {n : Nat} (h : n < 2 ^ 64) : n < 2 ^ 9000 := Nat.lt_of_lt_of_le h (Nat.pow_le_pow_right (by decide) (by decide))
theorem okD_int (i : Int) : okD (.int i) = true := rfl
theorem okD_str (i : Str) : okD (.str i) = true := rfl
theorem okD_bool (i : Bool) : okD (.bool i) = true := rfl
theorem okC_int (i j : Int) : okC (.int i) (.int j) = true := rfl
theorem okC_str (i j : Str) : okC (.str i) (.str j) = true := rfl
theorem eqv_int (i j : Int) : PyData.eqv (.int i) (.int j) = (i == j) := by rw [PyData.eqv]
theorem eqv_str (i j : Str) : PyData.eqv (.str i) (.str j) = (i == j) := by rw [PyData.eqv]
theorem lt_intD (a b : Int) : PySem.W.dataLt (.int a) (.int b) = decide (a < b) := PySem.W.dataLt_int a b
theorem lt_strD (a b : Str) : PySem.W.dataLt (.str a) (.str b) = decide (a.cps.toList < b.cps.toList) := PySem.W.dataLt_str a b
theorem forL_inv {f : PyData → Env → Option Env} {body : SM} (I : Env → Bag → Prop) : ∀ (ds : List PyData), (∀ d ∈ ds, ∀ ρ B, I ρ B → ∃ ρ1, f d ρ = some ρ1 ∧ ∃ ρ2 B2, body ρ1 B = .ok (.nx ρ2) B2 ∧ I ρ2 B2) →
    ∀ ρ B, I ρ B → ∃ ρ' B', forL f body ds ρ B = .ok (.nx ρ') B' ∧ I ρ' B'
  | [], _, ρ, B, h => ⟨ρ, B, rfl, h⟩
  | d :: ds, st, ρ, B, h => by
    obtain ⟨ρ1, e1, ρ2, B2, e2, h2⟩ := st d (List.mem_cons_self ..) ρ B h
    obtain ⟨ρ', B', e3, h3⟩ := forL_inv I ds (fun d hd => st d (List.mem_cons_of_mem _ hd)) ρ2 B2 h2
    refine ⟨ρ', B', ?_, h3⟩
    simp only [forL, e1, e2]
    exact e3
/-- .. by the turn's number -/
theorem forL_ix {f : PyData → Env → Option Env} {body : SM} (I : Nat → Env → Bag → Prop) : ∀ (ds : List PyData) (k : Nat), (∀ (j : Nat) d, ds[j]? = some d → ∀ ρ B, I (k + j) ρ B → ∃ ρ1, f d ρ = some ρ1 ∧ ∃ ρ2 B2, body ρ1 B = .ok (.nx ρ2) B2 ∧ I (k + j + 1) ρ2 B2) →
    ∀ ρ B, I k ρ B → ∃ ρ' B', forL f body ds ρ B = .ok (.nx ρ') B' ∧ I (k + ds.length) ρ' B'
  | [], k, _, ρ, B, h => ⟨ρ, B, rfl, h⟩
  | d :: ds, k, st, ρ, B, h => by
    obtain ⟨ρ1, e1, ρ2, B2, e2, h2⟩ := st 0 d rfl ρ B h
    obtain ⟨ρ', B', e3, h3⟩ := forL_ix I ds (k + 1) (fun j d hd ρ B hh => by
      have := st (j + 1) d (by simpa using hd) ρ B (by rw [show k + (j + 1) = k + 1 + j by omega]; exact hh)
      rwa [show k + (j + 1) + 1 = k + 1 + j + 1 by omega] at this) ρ2 B2 h2
    refine ⟨ρ', B', ?_, by rw [List.length_cons, show k + (ds.length + 1) = k + 1 + ds.length by omega]; exact h3⟩
    simp only [forL, e1, e2]
    exact e3
theorem compL_all {f : PyData → Env → Option Env} {me : EM} (P : PyData → Prop) : ∀ (ds : List PyData) (ρ : Env) (acc : List PyData) (B : Bag), BagOk B → acc.length + ds.length ≤ sizeLine →
    (∀ d ∈ ds, ∀ B, BagOk B → ∃ ρ1 e B2 x, f d ρ = some ρ1 ∧ me ρ1 B = .ok e B2 ∧ e.data = some x ∧ P x ∧ BagOk B2) →
    ∃ xs B', compL f tYesM me ds ρ acc B = .ok (acc ++ xs) B' ∧ BagOk B' ∧ xs.length = ds.length ∧ ∀ x ∈ xs, P x
  | [], ρ, acc, B, ok, _, _ => ⟨[], B, by simp [compL], ok, rfl, by simp⟩
  | d :: ds, ρ, acc, B, ok, hl, st => by
    obtain ⟨ρ1, e, B2, x, e1, e2, e3, hp, ok2⟩ := st d (List.mem_cons_self ..) B ok
    simp only [List.length_cons] at hl
    obtain ⟨xs, B', e4, ok', l4, p4⟩ := compL_all P ds ρ (acc ++ [x]) B2 ok2 (by simp; omega) (fun d hd => st d (List.mem_cons_of_mem _ hd))
    have hlt : acc.length < sizeLine := by omega
    refine ⟨x :: xs, B', ?_, ok', by simp [l4], ?_⟩
    · simp only [compL, e1, tYesM, bind_ok, e2, e3, if_true, if_pos hlt, e4]
      simp
    · intro y hy
      rcases List.mem_cons.mp hy with rfl | hy
      · exact hp
      · exact p4 y hy
/-- a comprehension by a plain function of the items -/
theorem compL_map {f : PyData → Env → Option Env} {me : EM} (F : PyData → PyData) : ∀ (ds : List PyData) (ρ : Env) (acc : List PyData) (B : Bag), acc.length + ds.length ≤ sizeLine →
    (∀ d ∈ ds, ∃ ρ1 e, f d ρ = some ρ1 ∧ me ρ1 B = .ok e B ∧ e.data = some (F d)) → compL f tYesM me ds ρ acc B = .ok (acc ++ ds.map F) B
  | [], ρ, acc, B, _, _ => by simp [compL]
  | d :: ds, ρ, acc, B, hl, st => by
    obtain ⟨ρ1, e, e1, e2, e3⟩ := st d (List.mem_cons_self ..)
    simp only [List.length_cons] at hl
    have hlt : acc.length < sizeLine := by omega
    simp only [compL, e1, tYesM, bind_ok, e2, e3, if_true, if_pos hlt]
    rw [compL_map F ds ρ (acc ++ [F d]) B (by simp; omega) (fun d hd => st d (List.mem_cons_of_mem _ hd))]
    simp
/-- .. with a test -/
theorem compL_filter {f : PyData → Env → Option Env} {me : EM} {tt : TM} (F : PyData → PyData) (T : PyData → Bool) : ∀ (ds : List PyData) (ρ : Env) (acc : List PyData) (B : Bag), acc.length + ds.length ≤ sizeLine →
    (∀ d ∈ ds, ∃ ρ1 e, f d ρ = some ρ1 ∧ tt ρ1 B = .ok (T d) B ∧ me ρ1 B = .ok e B ∧ e.data = some (F d)) → compL f tt me ds ρ acc B = .ok (acc ++ (ds.filter T).map F) B
  | [], ρ, acc, B, _, _ => by simp [compL]
  | d :: ds, ρ, acc, B, hl, st => by
    obtain ⟨ρ1, e, e1, e0, e2, e3⟩ := st d (List.mem_cons_self ..)
    simp only [List.length_cons] at hl
    have hlt : acc.length < sizeLine := by omega
    cases hT : T d with
    | true =>
      simp only [compL, e1, e0, hT, bind_ok, e2, e3, if_true, if_pos hlt]
      rw [compL_filter F T ds ρ (acc ++ [F d]) B (by simp; omega) (fun d hd => st d (List.mem_cons_of_mem _ hd))]
      simp [hT]
    | false =>
      simp only [compL, e1, e0, hT, bind_ok, Bool.false_eq_true, if_false]
      rw [compL_filter F T ds ρ acc B (by omega) (fun d hd => st d (List.mem_cons_of_mem _ hd))]
      simp [hT]
theorem cutL_nat {α : Type} (xs : List α) (a c : Nat) : cutL xs (some (a : Int)) (some (c : Int)) = (xs.drop (min a xs.length)).take (min c xs.length - min a xs.length) := by
  unfold cutL
  rw [HT.sIx_nat, HT.sIx_nat]
theorem cutL_to {α : Type} (xs : List α) (c : Nat) : cutL xs none (some (c : Int)) = xs.take (min c xs.length) := by
  unfold cutL
  rw [HT.sIx_nat, HT.sIx_none]
  simp
theorem cutL_from {α : Type} (xs : List α) (a : Nat) : cutL xs (some (a : Int)) none = xs.drop a := by
  unfold cutL
  rw [HT.sIx_nat, HT.sIx_none]
  by_cases h : a ≤ xs.length
  · rw [Nat.min_eq_left h]
    exact List.take_of_length_le (by simp)
  · rw [Nat.min_eq_right (by omega)]
    simp
    omega
theorem atI_at {α : Type} {xs : List α} {i : Int} (h0 : 0 ≤ i) (h : i < xs.length) : ∃ x, atI xs i = some x ∧ x ∈ xs ∧ xs[i.toNat]? = some x := by
  have hl : i.toNat < xs.length := by omega
  have e : i = ((i.toNat : Nat) : Int) := by omega
  refine ⟨xs[i.toNat], ?_, List.getElem_mem hl, List.getElem?_eq_getElem hl⟩
  conv => lhs; rw [e]
  exact atI_nat (List.getElem?_eq_getElem hl)
/-! ### what can be shown -/
structure Gd (n m : Nat) (d : PyData) : Prop where
  lv : d.leavesShort 130 = true
  sw : d.showable = true
  bk : d.bulk ≤ n
  dp : d.depth ≤ m
theorem Gd.mono {n m n' m' : Nat} {d : PyData} (g : Gd n m d) (h : n ≤ n') (h' : m ≤ m') : Gd n' m' d := ⟨g.lv, g.sw, Nat.le_trans g.bk h, Nat.le_trans g.dp h'⟩
theorem Gd.shown {n m : Nat} {d : PyData} (g : Gd n m d) (h : n ≤ 10000) : d.shown.length ≤ sizeLine := by
  have h1 := PyData.shown_le_bulk 130 (by decide) d g.lv
  have h2 := g.bk
  have h3 : (130 + 2) * d.bulk ≤ 132 * 10000 := Nat.mul_le_mul_left _ (by omega)
  have := sizeLine_eq
  omega
theorem reprD_ok {n m : Nat} {d : PyData} (g : Gd n m d) (h : n ≤ 10000) (h' : m ≤ 60) : gReprD [d] = some (.sh (.str d.shown)) := by
  have h1 := g.shown h
  have h2 := Nat.le_trans g.dp h'
  simp [gReprD, g.sw, h1, h2]
theorem repr_ok {n m : Nat} {d : PyData} (g : Gd n m d) (hd : d.hasDict = false) (h : n ≤ 10000) (h' : m ≤ 60) : gRepr [d] = some (.sh (.str d.shown)) := by
  have h1 := g.shown h
  have h2 := Nat.le_trans g.dp h'
  simp [gRepr, g.sw, h1, h2, hd]
/-- the sums over a list of such -/
theorem Gd.all {n m : Nat} : ∀ {ds : List PyData}, (∀ d ∈ ds, Gd n m d) → PyData.leavesShortAll 130 ds = true ∧ PyData.showableAll ds = true ∧ PyData.bulkAll ds ≤ ds.length * (n + 1) ∧ PyData.depthAll ds ≤ m
  | [], _ => ⟨by simp [PyData.leavesShortAll], by simp [PyData.showableAll], by simp [PyData.bulkAll], by simp [PyData.depthAll]⟩
  | d :: ds, h => by
    obtain ⟨a1, a2, a3, a4⟩ := Gd.all fun x hx => h x (List.mem_cons_of_mem _ hx)
    have g := h d (List.mem_cons_self ..)
    have g1 := g.bk
    have g2 := g.dp
    refine ⟨by simp [PyData.leavesShortAll, g.lv, a1], by simp [PyData.showableAll, g.sw, a2], ?_, ?_⟩
    · simp only [PyData.bulkAll, List.length_cons, Nat.add_mul, Nat.one_mul]
      omega
    · simp only [PyData.depthAll]
      omega
theorem Gd.list {n m : Nat} {ds : List PyData} (h : ∀ d ∈ ds, Gd n m d) : Gd (ds.length * (n + 1)) (m + 1) (.list ds) := by
  obtain ⟨a1, a2, a3, a4⟩ := Gd.all h
  exact ⟨by simp only [PyData.leavesShort]; exact a1, by simp only [PyData.showable]; exact a2, by simp only [PyData.bulk]; exact a3, by simp only [PyData.depth]; omega⟩
theorem Gd.tuple {n m : Nat} {ds : List PyData} (h : ∀ d ∈ ds, Gd n m d) : Gd (ds.length * (n + 1)) (m + 1) (.tuple ds) := by
  obtain ⟨a1, a2, a3, a4⟩ := Gd.all h
  exact ⟨by simp only [PyData.leavesShort]; exact a1, by simp only [PyData.showable]; exact a2, by simp only [PyData.bulk]; exact a3, by simp only [PyData.depth]; omega⟩
theorem Gd.bool {b : Bool} : Gd 0 0 (.bool b) := ⟨by simp [PyData.leavesShort], by simp [PyData.showable], by simp [PyData.bulk], by simp [PyData.depth]⟩
theorem Gd.none : Gd 0 0 .none := ⟨by simp [PyData.leavesShort], by simp [PyData.showable], by simp [PyData.bulk], by simp [PyData.depth]⟩
def asc (x : Str) : Bool := x.cps.toList.all fun c => decide (c < 128)
theorem Gd.str {x : Str} {n : Nat} (ha : asc x = true) (hl : x.cps.size ≤ n) : Gd n 0 (.str x) := by
  refine ⟨?_, by simp [PyData.showable], by simpa [PyData.bulk] using hl, by simp [PyData.depth]⟩
  simp only [PyData.leavesShort, asc, List.all_eq_true, decide_eq_true_eq] at ha ⊢
  intro c hc
  have := ha c hc
  omega
end Mr
namespace Mr
open PySem PySem.Spec PyProof.Rows L2
/-- a law's call, by a promise that holds where nothing is being shown -/
theorem law_callS {P : Program} {w : World} {K : PySem.W.Frag} {mg mb : Str → Option Value} {k : Nat} {fa a : Addr} {fd : FuncData} {x : Str} {sp : Sp} {st : Shared} {us : List Value} {ns : List Int}
    (kin : K.In st.heap) (gl : st.heap.Ns mainGlobals mg) (bl : st.heap.Ns builtinsNs mb) (bb : ∀ x : Str, x ≠ "__name__" → mb x = bootBuiltins x) (nl : st.heap.NoLimit) (ge : st.gens = #[])
    (sa : st.heap.get? a = some { cls := .type "list", data := .seq us.toArray }) (hia : IntsAre us ns) (sz : ns.length ≤ sizeLine) (hr : Room k callerA)
    (sy : ∃ mm, st.heap.Ns sysModules mm) (F : ∀ base : Heap, K.In base → base.Ns mainGlobals mg → (∃ o, base.get? sysModules = some o) → FnG P w K mg base k fa fd [x] sp) (bi : ∀ (s : Shared) (u : Value), BindsTo s fd ⟨[u], []⟩ [(x, u)])
    (pr : ∀ H : Hp, Only H → SqL K H a (ns.map V.int) → sp [.ref a] H (fun v _ => v = .bl true) fun _ _ _ => False) :
    codeAny (model P w) callerA (.call (.ref fa) ⟨[.ref a], []⟩) (fun r s' => r = .ok (.ret (.bool true)) ∧ OldK st.heap s'.heap ∧ s'.os = st.os ∧ AllBare s'.gens) st := by
  have main : ∀ H : Hp, Only H → SqL K H a (ns.map V.int) → HOk P w H st.heap → (∀ c, H c ≠ none → c = a) → (H a ≠ none → K.lookup a = none) →
      codeAny (model P w) callerA (.call (.ref fa) ⟨[.ref a], []⟩) (fun r s' => r = .ok (.ret (.bool true)) ∧ OldK st.heap s'.heap ∧ s'.os = st.os ∧ AllBare s'.gens) st := by
    intro H only sq hok onlyA free
    have isA : ∀ {c : Addr} {u : HO}, H c = some u → c = a := fun {c u} z => onlyA c (by rw [z]; exact Option.some_ne_none u)
    have notDict : ∀ {c : Addr} {o : Obj} {es : Array DictEntry} {ep : Nat}, st.heap.get? c = some o → o.data = .dict es ep → H c = none := by
      intro c o es ep z dd
      cases hc : H c with
      | none => rfl
      | some u =>
        rw [isA hc, sa] at z
        cases z
        cases dd
    have nsB : ∀ {c : Addr} {m : Str → Option Value}, st.heap.Ns c m → (hidT st.heap H).Ns c m := by
      intro c m z
      obtain ⟨o, es, ep, z1, z2, z3⟩ := z
      exact ⟨o, es, ep, hidT_get z1 (notDict z1 z2), z2, z3⟩
    have kinB : K.In (hidT st.heap H) := by
      intro c o z
      refine hidT_get (kin c o z) ?_
      cases hc : H c with
      | none => rfl
      | some u =>
        have ca := isA hc
        rw [ca] at z hc
        rw [free (by rw [hc]; exact Option.some_ne_none u)] at z
        cases z
    have lim : (hidT st.heap H).NoLimit := by
      obtain ⟨mc, z1, z2⟩ := nl
      exact ⟨mc, nsB z1, z2⟩
    have md : Mod K mg (hidT st.heap H) := ⟨kinB, nsB gl, ⟨mb, nsB bl, bb⟩, lim⟩
    have e0 : Env0 P w K mg (hidT st.heap H) callerA [] st H :=
      ⟨rfl, md, fun c o z => of_hidT z, Nat.le_of_eq (hidT_size _ _), trivial, fun c hc => absurd (show c ∈ ([] : List Addr) from hc) (by simp), hok, .of_eq ge⟩
    have syB : ∃ o, (hidT st.heap H).get? sysModules = some o := by
      obtain ⟨mm, y⟩ := sy
      obtain ⟨o, es, ep, y1, _⟩ := nsB y
      exact ⟨o, y1⟩
    have run := (F _ kinB (nsB gl) syB).grun callerA [] st H ⟨[.ref a], []⟩ [.ref a] [.ref a] _ _ rfl hr e0 (bi st (.ref a)) (.cons rfl .nil) (pr H only sq)
    refine codeAny_mono run fun r s' h => ?_
    match r, h with
    | .error e, h => exact h.elim
    | .ok (.ret u), h =>
      obtain ⟨v, H', os, bare, un, hok', rv, hv⟩ := h
      have hv' : v = .bl true := hv
      subst hv'
      obtain rfl : u = Value.bool true := rv
      refine ⟨rfl, OldK.of_keep fun c o z => ?_, os, bare⟩
      cases hc : H c with
      | none => exact un.keep c o z hc (fun y => absurd (show c ∈ ([] : List Addr) from y) (by simp)) (by simp)
      | some u =>
        rcases only c with y | ⟨ob, xs, y⟩
        · rw [hc] at y; cases y
        · obtain ⟨e1, _⟩ := hok c _ y
          obtain ⟨e2, _⟩ := hok' c _ (un.frzs c ob _ y)
          rw [z] at e1; cases e1
          exact e2
  have rv := vals_ints hia
  cases hk : K.lookup a with
  | some o =>
    have z := kin a o hk
    rw [sa] at z
    cases z
    have none' : ∀ (c : Addr) (u : HO), (fun _ => none : Hp) c = some u → False := fun c u y => nomatch y
    refine main (fun _ => none) (fun _ => .inl rfl) (.inr ⟨_, us.toArray, _, hk, rfl, rfl, rfl, ?_, by simpa using rv⟩) (fun c u y => (none' c u y).elim) (fun c y => absurd rfl y) fun y => absurd rfl y
    rw [List.size_toArray, hia.length]; exact sz
  | none =>
    let Hs : Hp := fun c => if c = a then some (.frz { cls := .type "list", data := .seq us.toArray } (.lst (ns.map V.int))) else none
    have at_a : Hs a = some (.frz { cls := .type "list", data := .seq us.toArray } (.lst (ns.map V.int))) := if_pos rfl
    have off : ∀ c, c ≠ a → Hs c = none := fun c hc => if_neg hc
    refine main Hs (fun c => ?_) (.inl (.inr ⟨_, at_a⟩)) (fun c u y => ?_) (fun c y => ?_) fun _ => hk
    · by_cases hc : c = a
      · rw [hc]; exact .inr ⟨_, _, at_a⟩
      · exact .inl (off c hc)
    · by_cases hc : c = a
      · subst hc
        rw [at_a] at y; cases y
        exact ⟨sa, by rw [List.length_map]; exact sz, us, _, rv, sa⟩
      · rw [off c hc] at y; cases y
    · by_cases hc : c = a
      · exact hc
      · exact absurd (off c hc) y
theorem walk_ofS {l : PySem.W.OpenLaw} {n k : Nat} {q : Program} {loose : List Str} {XP : (Str → Option Value) → Heap → Prop} {YP : World → Heap → Prop} {d : DefRec} {K : Params → PySem.W.Frag} {sp : World → Sp} {x : Str}
    (himp : importsNone q = true) (hn : l.most = some n) (hn2 : n ≤ sizeLine) (hdf : d.params.defaults = []) (hr : Room k callerA) (hY : ∀ (w : World) (h : Heap), YP w h → (K w.params).In h)
    (F : ∀ (w : World) (mg : Str → Option Value) (fa : Addr) (h : Heap), (K w.params).In h → h.Ns mainGlobals mg → mg d.name = some (.ref fa) →
      ∃ fd : FuncData, (∀ (s : Shared) (u : Value), BindsTo s fd ⟨[u], []⟩ [(x, u)]) ∧ ∀ base : Heap, (K w.params).In base → base.Ns mainGlobals mg → (∃ o, base.get? sysModules = some o) → FnG l.prog w (K w.params) mg base k fa fd [x] (sp w))
    (pr : ∀ (w : World) (H : Hp) (a : Addr) (ns : List Int), ns.length ≤ n → (∀ z ∈ ns, Builtin.Int.intBits z ≤ 1048576) → Only H → SqL (K w.params) H a (ns.map V.int) → sp w [.ref a] H (fun v _ => v = .bl true) fun _ _ _ => False) :
    PySem.W.WalkO q loose XP YP l.row.toRowW d [] (fun f vs => PySem.call f vs) :=
  Att.attach_callB hn hdf fun w s0 s1 mg mb fa o pm cd doc a us ns G Y _ _ _ hmg sa hia hl hbits ge => by
    obtain ⟨fd, bi, hF⟩ := F w mg fa _ (hY w _ Y) G.T.g hmg
    have sy : ∃ mm, s1.heap.Ns sysModules mm := by
      obtain ⟨mm, y, _⟩ := (G.T.seer himp).mods
      exact ⟨mm, y⟩
    exact law_callS (hY w _ Y) G.T.g G.T.b G.T.builtins G.T.nolimit ge sa hia (Nat.le_trans hl hn2) hr sy hF bi fun H only sq => pr w H a ns hl hbits only sq
end Mr
namespace Mr
open PySem PySem.Spec PyProof.Rows L2
/-! ### x == [], x != [] of any list -/
def gEqN : PyData → PyData → Option EV
  | .list xs, .list [] => some (.sh (.bool xs.isEmpty))
  | _, _ => none
def gNeN : PyData → PyData → Option EV
  | .list xs, .list [] => some (.sh (.bool (!xs.isEmpty)))
  | _, _ => none
section
variable {X : Cx}
theorem list_at {pins : List (Addr × Obj)} {s : Shared} {σ : L2.St} {H H0 : Hp} {x : V} {v : Value} {ds : List PyData} (I : Inv X pins σ H s) (l : Le H0 H) (r : Dn H0 x (.list ds)) (rx : RelV x v) :
    ∃ a its, v = .ref a ∧ s.heap.IsList a its ∧ its.size = ds.length := by
  obtain ⟨a, xs, rfl, ha, hd⟩ := Dn.lst_inv r
  cases rx
  obtain ⟨_, its, n, rv, ho⟩ := I.hok _ _ (l _ _ ha)
  exact ⟨a, its.toArray, rfl, ⟨_, ho, rfl, n, rfl⟩, by rw [List.size_toArray, ← rv.length, hd.length]⟩
theorem op_eqN (hu : X.A.units + 64 < cLine) : OpR X (compareOp .Eq) (rD2 gEqN) := by
  intro pins s σ H x y v u Q I rx ry ⟨H0, d1, d2, e, l, r1, r2, hg, q⟩
  unfold gEqN at hg
  split at hg
  · rename_i xs
    cases hg
    cases xs with
    | nil =>
      refine op_eqM hu pins s σ H x y v u Q I rx ry ⟨H0, .list [], .list [], _, l, r1, r2, ?_, q⟩
      rfl
    | cons z zs =>
      obtain ⟨a, its, rfl, h1, e1⟩ := list_at I l r1 rx
      obtain ⟨b, its2, rfl, h2, e2⟩ := list_at I l r2 ry
      exact SeqAt.eq_list_lengthsAt h1 h2 (by rw [e1, e2]; simp) (by omega) ⟨.bl false, H, I, rfl, q _ _ nr_bl⟩
  · cases hg
theorem op_neN (hu : X.A.units + 64 < cLine) : OpR X (compareOp .NotEq) (rD2 gNeN) := by
  intro pins s σ H x y v u Q I rx ry ⟨H0, d1, d2, e, l, r1, r2, hg, q⟩
  unfold gNeN at hg
  split at hg
  · rename_i xs
    cases hg
    cases xs with
    | nil =>
      refine op_neM hu pins s σ H x y v u Q I rx ry ⟨H0, .list [], .list [], _, l, r1, r2, ?_, q⟩
      rfl
    | cons z zs =>
      obtain ⟨a, its, rfl, h1, e1⟩ := list_at I l r1 rx
      obtain ⟨b, its2, rfl, h2, e2⟩ := list_at I l r2 ry
      exact SeqAt.RcNeAt.lists_lengths h1 h2 (by rw [e1, e2]; simp) (by omega) _ _ _ _ ⟨.bl true, H, I, rfl, q _ _ nr_bl⟩
  · cases hg
end
/-- an own list is handed back as such -/
def sRetO (i : Nat) : SM := fun ρ B => match ρ[i]? with
  | some (some e) => .ok (.rt e) B
  | _ => .bad
theorem ms_retO {X : Cx} {i : Nat} {x : Str} {xp pos : Pos} (hx : PE X (.Name x xp) (tVar i)) : MS X (.Return (some (.Name x xp)) pos) (sRetO i) := PS.weak (ps_ret hx) fun D σ H ⟨b, He, H0e, ρ, B, H0, s, q⟩ => by
  unfold sRetO at q
  split at q
  · rename_i e h
    obtain ⟨v, hv, r⟩ := s.slot i e h
    exact ⟨v, hv, q v H0 H s.hr s.gr r⟩
  · exact q.elim
end Mr
namespace K14
open PySem PySem.Spec PyProof.Rows L2 Mr
def m_is_integer : FM := mfn 1 (sRet (eAnd (eUn (gIsi "int") (eVar 0)) (eNot (eUn (gIsi "bool") (eVar 0)))))

def m_is_number : FM := mfn 2 (sRet (eAnd (eCall 1 m_is_integer (aCons (eVar 1) aNil)) (eBin gGe (eVar 1) (eVar 0))))

def m_is_kind : FM := mfn 2 (sRet (eAnd (eUn (gIsi "str") (eVar 0)) (eAnd (eChain gLt gLe (eC (.int 0)) (eCB gLen (aCons (eVar 0) aNil)) (eC (.int 8))) (eCB gAll (aCons (eComp [1] (iVal (eVar 0)) (fName 1) tYesM (eBin gIn (eVar 1) (eC (.str "abcdefghijklmnopqrstuvwxyz")))) aNil)))))

def m_is_cart : FM := mfn 1 (sSeq (sIf (tOrM (tNotM (tVal (eUn (gIsi "tuple") (eVar 0)))) (tOrM (tBool (eBin gNe (eCB gLen (aCons (eVar 0) aNil)) (eC (.int 3)))) (tNotM (tVal (eUn (gIsi "bool") (eBin gIx (eVar 0) (eC (.int 2))))))))
  (sRet (eC (.bool false))) sSkip)
  (sRet (eAnd (eCall 1 m_is_kind (aCons (eBin gIx (eVar 0) (eC (.int 0))) aNil)) (eAnd (eCall 1 m_is_kind (aCons (eBin gIx (eVar 0) (eC (.int 1))) aNil)) (eOr (eNot (eBin gIx (eVar 0) (eC (.int 2)))) (eBin gLe (eBin gIx (eVar 0) (eC (.int 0))) (eBin gIx (eVar 0) (eC (.int 1)))))))))

def m_is_step : FM := mfn 1 (sSeq (sIf (tOrM (tNotM (tVal (eUn (gIsi "tuple") (eVar 0)))) (tOrM (tBool (eBin gNe (eCB gLen (aCons (eVar 0) aNil)) (eC (.int 2)))) (tOrM (tNotM (tVal (eCall 1 m_is_cart (aCons (eBin gIx (eVar 0) (eC (.int 0))) aNil)))) (tNotM (tVal (eUn (gIsi "bool") (eBin gIx (eVar 0) (eC (.int 1)))))))))
  (sRet (eC (.bool false))) sSkip)
  (sRet (eOr (eNot (eBin gIx (eVar 0) (eC (.int 1)))) (eAnd (eBin gIx (eBin gIx (eVar 0) (eC (.int 0))) (eC (.int 2))) (eBin gNe (eBin gIx (eBin gIx (eVar 0) (eC (.int 0))) (eC (.int 0))) (eBin gIx (eBin gIx (eVar 0) (eC (.int 0))) (eC (.int 1))))))))

def m_begin_of : FM := mfn 5 (sSeq (sUnp (fTup 2 (fCons (fTup 3 (fCons (fName 2) (fCons (fName 3) (fCons (fName 4) fNil)))) (fCons (fName 1) fNil))) (eVar 0))
  (sRet (eIf (tVal (eVar 1)) (eVar 3) (eVar 2))))

def m_end_of : FM := mfn 5 (sSeq (sUnp (fTup 2 (fCons (fTup 3 (fCons (fName 2) (fCons (fName 3) (fCons (fName 4) fNil)))) (fCons (fName 1) fNil))) (eVar 0))
  (sRet (eIf (tVal (eVar 1)) (eVar 2) (eVar 3))))

def m_couple : FM := mfn 2 (sRet (eBin gEq (eCall 1 m_end_of (aCons (eVar 0) aNil)) (eCall 1 m_begin_of (aCons (eVar 1) aNil))))

def m_is_row : FM := mfn 3 (sSeq (sIf (tOrM (tNotM (tVal (eUn (gIsi "list") (eVar 0)))) (tOrM (tBool (eBin gEqN (eVar 0) (eLst aNil))) (tNotM (tVal (eCB gAll (aCons (eComp [1] (iVal (eVar 0)) (fName 1) tYesM (eCall 1 m_is_step (aCons (eVar 1) aNil))) aNil))))))
  (sRet (eC (.bool false))) sSkip)
  (sRet (eCB gAll (aCons (eComp [1, 2] (iZipM (aCons (eVar 0) (aCons (eSl (eVar 0) (oSome (eC (.int 1))) oNone) aNil))) (fTup 2 (fCons (fName 1) (fCons (fName 2) fNil))) tYesM (eCall 2 m_couple (aCons (eVar 1) (aCons (eVar 2) aNil)))) aNil))))

def m_row_ends : FM := mfn 1 (sRet (eTup (aCons (eCall 1 m_begin_of (aCons (eBin gIx (eVar 0) (eC (.int 0))) aNil)) (aCons (eCall 1 m_end_of (aCons (eBin gIx (eVar 0) (eUn gNeg (eC (.int 1)))) aNil)) aNil))))

def m_is_part : FM := mfn 3 (sSeq (sIf (tOrM (tNotM (tVal (eUn (gIsi "tuple") (eVar 0)))) (tOrM (tBool (eBin gNe (eCB gLen (aCons (eVar 0) aNil)) (eC (.int 2)))) (tOrM (tNotM (tVal (eCall 2 m_is_number (aCons (eC (.int 1)) (aCons (eBin gIx (eVar 0) (eC (.int 0))) aNil))))) (tNotM (tVal (eCall 1 m_is_row (aCons (eBin gIx (eVar 0) (eC (.int 1))) aNil)))))))
  (sRet (eC (.bool false))) sSkip)
  (sSeq (sUnp (fTup 2 (fCons (fName 1) (fCons (fName 2) fNil))) (eCall 1 m_row_ends (aCons (eBin gIx (eVar 0) (eC (.int 1))) aNil)))
  (sRet (eOr (eBin gEq (eBin gIx (eVar 0) (eC (.int 0))) (eC (.int 1))) (eBin gEq (eVar 1) (eVar 2))))))

def m_is_train : FM := mfn 3 (sSeq (sIf (tOrM (tNotM (tVal (eUn (gIsi "list") (eVar 0)))) (tOrM (tBool (eBin gEqN (eVar 0) (eLst aNil))) (tNotM (tVal (eCB gAll (aCons (eComp [1] (iVal (eVar 0)) (fName 1) tYesM (eCall 1 m_is_part (aCons (eVar 1) aNil))) aNil))))))
  (sRet (eC (.bool false))) sSkip)
  (sRet (eCB gAll (aCons (eComp [1, 2] (iZipM (aCons (eVar 0) (aCons (eSl (eVar 0) (oSome (eC (.int 1))) oNone) aNil))) (fTup 2 (fCons (fName 1) (fCons (fName 2) fNil))) tYesM (eBin gEq (eBin gIx (eCall 1 m_row_ends (aCons (eBin gIx (eVar 1) (eC (.int 1))) aNil)) (eC (.int 1))) (eBin gIx (eCall 1 m_row_ends (aCons (eBin gIx (eVar 2) (eC (.int 1))) aNil)) (eC (.int 0))))) aNil))))

def m_L_take : FM := mfn 7 (sSeq (sIf (tBool (eBin gEq (eBg 0 0) (eC (.int 0))))
  (sSeq (sSetS 4 (eC (.int 0)))
  (sSeq (sIf (tBool (eBin gLt (eBg 0 2) (eCB gLen (aCons (eBg 0 3) aNil))))
  (sSetS 4 (eBin gIx (eBg 0 3) (eBg 0 2))) sSkip)
  (sSeq (sBgAdd 0 2 (eC (.int 1)))
  (sSeq (sIf (tBool (eBin gGe (eVar 4) (eC (.int 1000000000000000000))))
  (sBg 0 0 (eVar 4)) sSkip)
  (sSeq (sSetS 5 (eBin gAdd (eBin gAdd (eBin gMul (eBg 0 1) (eC (.int 48271))) (eBin gMod (eCB gInt (aCons (eVar 4) aNil)) (eC (.int 2147483647)))) (eBin gMul (eC (.int 7919)) (eBg 0 2))))
  (sBg 0 1 (eBin gMod (eCB gInt (aCons (eVar 5) aNil)) (eC (.int 2147483647))))))))) sSkip)
  (sSeq (sIf (tBool (eBin gGt (eBg 0 0) (eC (.int 0))))
  (sSeq (sSetS 6 (eBin gMod (eCB gInt (aCons (eBg 0 0) aNil)) (eVar 1)))
  (sSeq (sBg 0 0 (eBin gFdiv (eBg 0 0) (eVar 1)))
  (sRet (eVar 6)))) sSkip)
  (sSeq (sSetS 2 (eBin gMod (eCB gInt (aCons (eBin gMul (eBin gAdd (eBg 0 1) (eC (.int 1))) (eC (.int 39373))) aNil)) (eC (.int 1000000007))))
  (sSeq (sSetS 3 (eBin gMod (eCB gInt (aCons (eBin gMul (eBin gMod (eCB gInt (aCons (eBin gMul (eVar 2) (eVar 2)) aNil)) (eC (.int 998244353))) (eC (.int 30011))) aNil)) (eC (.int 998244353))))
  (sRet (eBin gMod (eCB gInt (aCons (eBin gFdiv (eVar 3) (eC (.int 7))) aNil)) (eVar 1)))))))

def m_L_alike : FM := mfn 2 (sRet (eAnd (eBin gEq (eVar 0) (eVar 1)) (eBin gEq (eCB gRepr (aCons (eVar 0) aNil)) (eCB gRepr (aCons (eVar 1) aNil)))))

def m_L_one : FM := mfn 2 (sRet (eBin gIx (eVar 1) (eCall 2 m_L_take (aCons (eVar 0) (aCons (eCB gLen (aCons (eVar 1) aNil)) aNil)))))

def m_L_mixed : FM := mfn 4 (sSeq (sSet 2 (eLst aNil))
  (sSeq (sFor (iVal (eVar 1)) (fName 3)
  (sInsO 2 (eCall 2 m_L_take (aCons (eVar 0) (aCons (eBin gAdd (eScal [2] (eCB gLen (aCons (eVar 2) aNil))) (eC (.int 1))) aNil))) (eVar 3)))
  (sRetO 2)))

def m_L_kinds : FM := mfn 7 (sSeq (sUnp (fTup 2 (fCons (fName 4) (fCons (fName 5) fNil))) (eTup (aCons (eCall 2 m_L_take (aCons (eVar 0) (aCons (eC (.int 4)) aNil))) (aCons (eCall 2 m_L_take (aCons (eVar 0) (aCons (eC (.int 12)) aNil))) aNil))))
  (sSeq (sSetS 2 (eLst (aCons (eC (.str "a")) (aCons (eC (.str "aa")) (aCons (eC (.str "b")) (aCons (eC (.str "ab")) (aCons (eC (.str "ba")) (aCons (eC (.str "z")) (aCons (eC (.str "zz")) (aCons (eC (.str "hook")) (aCons (eC (.str "end")) (aCons (eC (.str "zzzzzzzz")) (aCons (eC (.str "true")) (aCons (eC (.str "mm")) aNil))))))))))))))
  (sSeq (sIf (tBool (eBin gEq (eVar 4) (eC (.int 0))))
  (sRet (eCB gSorted (aCons (eSl (eBin gAdd (eVar 2) (eVar 2)) (oSome (eVar 5)) (oSome (eBin gAdd (eVar 5) (eVar 1)))) aNil))) sSkip)
  (sSeq (sIf (tBool (eBin gEq (eVar 4) (eC (.int 1))))
  (sRet (eSl (eLst (aCons (eC (.str "a")) (aCons (eC (.str "b")) (aCons (eC (.str "c")) (aCons (eC (.str "d")) (aCons (eC (.str "e")) (aCons (eC (.str "f")) (aCons (eC (.str "g")) (aCons (eC (.str "h")) aNil))))))))) oNone (oSome (eVar 1)))) sSkip)
  (sSeq (sSetS 3 (eSl (eC (.str "xq")) oNone (oSome (eCall 2 m_L_take (aCons (eVar 0) (aCons (eC (.int 3)) aNil))))))
  (sRet (eCB gSorted (aCons (eComp [6] (iRange (aCons (eVar 1) aNil)) (fName 6) tYesM (eBin gAdd (eVar 3) (eBin gIx (eC (.str "abcdefghijklmnopqrstuvwxyz")) (eBin gMod (eCB gInt (aCons (eBin gAdd (eBin gMul (eC (.int 2)) (eVar 5)) (eBin gMul (eC (.int 3)) (eVar 6))) aNil)) (eC (.int 26)))))) aNil))))))))

def m_L_number : FM := mfn 2 (sSeq (sSetS 1 (eCall 2 m_L_take (aCons (eVar 0) (aCons (eC (.int 8)) aNil))))
  (sSeq (sIf (tBool (eBin gLt (eVar 1) (eC (.int 6))))
  (sRet (eBin gAdd (eC (.int 1)) (eCall 2 m_L_take (aCons (eVar 0) (aCons (eBin gIx (eLst (aCons (eC (.int 1)) (aCons (eC (.int 2)) (aCons (eC (.int 3)) (aCons (eC (.int 4)) (aCons (eC (.int 6)) (aCons (eC (.int 12)) aNil))))))) (eVar 1)) aNil))))) sSkip)
  (sRet (eBin gAdd (eBin gIx (eLst (aCons (eBin gPow (eC (.int 10)) (eC (.int 3))) (aCons (eBin gPow (eC (.int 10)) (eC (.int 9))) (aCons (eBin gPow (eC (.int 10)) (eC (.int 17))) (aCons (eBin gPow (eC (.int 10)) (eC (.int 29))) aNil))))) (eCall 2 m_L_take (aCons (eVar 0) (aCons (eC (.int 4)) aNil)))) (eCall 2 m_L_take (aCons (eVar 0) (aCons (eC (.int 7)) aNil)))))))

def m_L_begin : FM := mfn 1 (sRet (eIf (tVal (eBin gIx (eVar 0) (eC (.int 1)))) (eBin gIx (eBin gIx (eVar 0) (eC (.int 0))) (eC (.int 1))) (eBin gIx (eBin gIx (eVar 0) (eC (.int 0))) (eC (.int 0)))))

def m_L_end : FM := mfn 1 (sRet (eIf (tVal (eBin gIx (eVar 0) (eC (.int 1)))) (eBin gIx (eBin gIx (eVar 0) (eC (.int 0))) (eC (.int 0))) (eBin gIx (eBin gIx (eVar 0) (eC (.int 0))) (eC (.int 1)))))

def m_L_step_on : FM := mfn 3 (sSeq (sIf (tBool (eBin gEq (eCall 2 m_L_take (aCons (eVar 0) (aCons (eC (.int 2)) aNil))) (eC (.int 0))))
  (sRet (eTup (aCons (eTup (aCons (eVar 1) (aCons (eVar 2) (aCons (eC (.bool false)) aNil)))) (aCons (eC (.bool false)) aNil)))) sSkip)
  (sRet (eTup (aCons (eTup (aCons (eCB gMin (aCons (eVar 1) (aCons (eVar 2) aNil))) (aCons (eCB gMax (aCons (eVar 1) (aCons (eVar 2) aNil))) (aCons (eC (.bool true)) aNil)))) (aCons (eBin gLt (eVar 2) (eVar 1)) aNil)))))

def m_L_row_from : FM := mfn 7 (sSeq (sSet 4 (eLst aNil))
  (sSeq (sFor (iRange (aCons (eBin gAdd (eC (.int 1)) (eCall 2 m_L_take (aCons (eVar 0) (aCons (eVar 3) aNil)))) aNil)) (fName 5)
  (sSeq (sSetS 6 (eCall 2 m_L_one (aCons (eVar 0) (aCons (eVar 1) aNil))))
  (sSeq (sApp 4 (eCall 3 m_L_step_on (aCons (eVar 0) (aCons (eVar 2) (aCons (eVar 6) aNil)))))
  (sSetS 2 (eVar 6)))))
  (sRetO 4)))

def m_L_round : FM := mfn 5 (sSeq (sSet 4 (eCall 4 m_L_row_from (aCons (eVar 0) (aCons (eVar 1) (aCons (eVar 2) (aCons (eVar 3) aNil))))))
  (sSeq (sIf (tBool (eBin gNe (eCall 1 m_L_end (aCons (eIxV 4 (eUn gNeg (eC (.int 1)))) aNil)) (eVar 2)))
  (sApp 4 (eCall 3 m_L_step_on (aCons (eVar 0) (aCons (eCall 1 m_L_end (aCons (eIxV 4 (eUn gNeg (eC (.int 1)))) aNil)) (aCons (eVar 2) aNil))))) sSkip)
  (sRetO 4)))

def m_L_train : FM := mfn 6 (sSeq (sFrzA [4] (sPar2 4 5 (eCall 2 m_L_one (aCons (eVar 0) (aCons (eVar 1) aNil))) (eLst aNil)))
  (sSeq (sFor (iRange (aCons (eBin gAdd (eC (.int 1)) (eCall 2 m_L_take (aCons (eVar 0) (aCons (eVar 2) aNil)))) aNil)) (fName 3)
  (sIf (tBool (eBin gEq (eCall 2 m_L_take (aCons (eVar 0) (aCons (eC (.int 2)) aNil))) (eC (.int 0))))
  (sApp 5 (eTup (aCons (eCall 1 m_L_number (aCons (eVar 0) aNil)) (aCons (eCall 4 m_L_round (aCons (eVar 0) (aCons (eVar 1) (aCons (eVar 4) (aCons (eC (.int 3)) aNil))))) aNil)))) (sSeq (sApp 5 (eTup (aCons (eC (.int 1)) (aCons (eCall 4 m_L_row_from (aCons (eVar 0) (aCons (eVar 1) (aCons (eVar 4) (aCons (eC (.int 4)) aNil))))) aNil))))
  (sSetS 4 (eCall 1 m_L_end (aCons (eBin gIx (eBin gIx (eIxV 5 (eUn gNeg (eC (.int 1)))) (eC (.int 1))) (eUn gNeg (eC (.int 1)))) aNil))))))
  (sRetO 5)))

def m_L_is_int : FM := mfn 1 (sRet (eAnd (eUn (gIsi "int") (eVar 0)) (eNot (eUn (gIsi "bool") (eVar 0)))))

def m_L_is_kind : FM := mfn 2 (sSeq (sIf (tOrM (tNotM (tVal (eUn (gIsi "str") (eVar 0)))) (tNotM (tBool (eChain gLt gLt (eC (.int 0)) (eCB gLen (aCons (eVar 0) aNil)) (eC (.int 9))))))
  (sRet (eC (.bool false))) sSkip)
  (sRet (eBin gEqN (eComp [1] (iVal (eVar 0)) (fName 1) (tBool (eBin gNotIn (eVar 1) (eC (.str "abcdefghijklmnopqrstuvwxyz")))) (eVar 1)) (eLst aNil))))

def m_L_is_cart : FM := mfn 1 (sSeq (sIf (tOrM (tNotM (tVal (eUn (gIsi "tuple") (eVar 0)))) (tOrM (tBool (eBin gNe (eCB gLen (aCons (eVar 0) aNil)) (eC (.int 3)))) (tNotM (tVal (eUn (gIsi "bool") (eBin gIx (eVar 0) (eC (.int 2))))))))
  (sRet (eC (.bool false))) sSkip)
  (sRet (eAnd (eCall 1 m_L_is_kind (aCons (eBin gIx (eVar 0) (eC (.int 0))) aNil)) (eAnd (eCall 1 m_L_is_kind (aCons (eBin gIx (eVar 0) (eC (.int 1))) aNil)) (eOr (eNot (eBin gIx (eVar 0) (eC (.int 2)))) (eBin gLe (eBin gIx (eVar 0) (eC (.int 0))) (eBin gIx (eVar 0) (eC (.int 1)))))))))

def m_L_is_step : FM := mfn 1 (sSeq (sIf (tOrM (tNotM (tVal (eUn (gIsi "tuple") (eVar 0)))) (tOrM (tBool (eBin gNe (eCB gLen (aCons (eVar 0) aNil)) (eC (.int 2)))) (tNotM (tVal (eCall 1 m_L_is_cart (aCons (eBin gIx (eVar 0) (eC (.int 0))) aNil))))))
  (sRet (eC (.bool false))) sSkip)
  (sRet (eAnd (eUn (gIsi "bool") (eBin gIx (eVar 0) (eC (.int 1)))) (eOr (eNot (eBin gIx (eVar 0) (eC (.int 1)))) (eAnd (eBin gIx (eBin gIx (eVar 0) (eC (.int 0))) (eC (.int 2))) (eBin gNe (eBin gIx (eBin gIx (eVar 0) (eC (.int 0))) (eC (.int 0))) (eBin gIx (eBin gIx (eVar 0) (eC (.int 0))) (eC (.int 1)))))))))

def m_L_is_row : FM := mfn 3 (sSeq (sIf (tOrM (tNotM (tVal (eUn (gIsi "list") (eVar 0)))) (tOrM (tBool (eBin gEqN (eVar 0) (eLst aNil))) (tBool (eBin gNeN (eComp [2] (iVal (eVar 0)) (fName 2) (tNotM (tVal (eCall 1 m_L_is_step (aCons (eVar 2) aNil)))) (eVar 2)) (eLst aNil)))))
  (sRet (eC (.bool false))) sSkip)
  (sRet (eBin gEqN (eComp [1] (iRange2 (aCons (eC (.int 1)) (aCons (eCB gLen (aCons (eVar 0) aNil)) aNil))) (fName 1) (tBool (eBin gNe (eCall 1 m_L_end (aCons (eBin gIx (eVar 0) (eBin gSub (eVar 1) (eC (.int 1)))) aNil)) (eCall 1 m_L_begin (aCons (eBin gIx (eVar 0) (eVar 1)) aNil)))) (eVar 1)) (eLst aNil))))

def m_L_is_part : FM := mfn 1 (sSeq (sIf (tOrM (tNotM (tVal (eUn (gIsi "tuple") (eVar 0)))) (tOrM (tBool (eBin gNe (eCB gLen (aCons (eVar 0) aNil)) (eC (.int 2)))) (tOrM (tNotM (tVal (eCall 1 m_L_is_int (aCons (eBin gIx (eVar 0) (eC (.int 0))) aNil)))) (tBool (eBin gLt (eBin gIx (eVar 0) (eC (.int 0))) (eC (.int 1)))))))
  (sRet (eC (.bool false))) sSkip)
  (sRet (eAnd (eCall 1 m_L_is_row (aCons (eBin gIx (eVar 0) (eC (.int 1))) aNil)) (eOr (eBin gEq (eBin gIx (eVar 0) (eC (.int 0))) (eC (.int 1))) (eBin gEq (eCall 1 m_L_begin (aCons (eBin gIx (eBin gIx (eVar 0) (eC (.int 1))) (eC (.int 0))) aNil)) (eCall 1 m_L_end (aCons (eBin gIx (eBin gIx (eVar 0) (eC (.int 1))) (eUn gNeg (eC (.int 1)))) aNil)))))))

def m_L_is_train : FM := mfn 6 (sSeq (sIf (tOrM (tNotM (tVal (eUn (gIsi "list") (eVar 0)))) (tOrM (tBool (eBin gEqN (eVar 0) (eLst aNil))) (tBool (eBin gNeN (eComp [5] (iVal (eVar 0)) (fName 5) (tNotM (tVal (eCall 1 m_L_is_part (aCons (eVar 5) aNil)))) (eVar 5)) (eLst aNil)))))
  (sRet (eC (.bool false))) sSkip)
  (sSeq (sSetS 1 (eComp [2, 3] (iVal (eVar 0)) (fTup 2 (fCons (fName 2) (fCons (fName 3) fNil))) tYesM (eTup (aCons (eCall 1 m_L_begin (aCons (eBin gIx (eVar 3) (eC (.int 0))) aNil)) (aCons (eCall 1 m_L_end (aCons (eBin gIx (eVar 3) (eUn gNeg (eC (.int 1)))) aNil)) aNil)))))
  (sRet (eBin gEqN (eComp [4] (iRange2 (aCons (eC (.int 1)) (aCons (eCB gLen (aCons (eVar 1) aNil)) aNil))) (fName 4) (tBool (eBin gNe (eBin gIx (eBin gIx (eVar 1) (eBin gSub (eVar 4) (eC (.int 1)))) (eC (.int 1))) (eBin gIx (eBin gIx (eVar 1) (eVar 4)) (eC (.int 0))))) (eVar 4)) (eLst aNil)))))

def m_L_odd_value : FM := mfn 4 (sSeq (sSetS 1 (eLst aNil))
  (sSeq (sFor (iRange (aCons (eC (.int 9)) aNil)) (fName 2)
  (sSetS 1 (eLst (aCons (eVar 1) aNil))))
  (sSeq (sSetS 3 (eLst (aCons (eC .none) (aCons (eC (.bool true)) (aCons (eC (.bool false)) (aCons (eC (.int 0)) (aCons (eC (.int 1)) (aCons (eUn gNeg (eC (.int 1))) (aCons (eC (.int 2)) (aCons (eBin gPow (eC (.int 10)) (eC (.int 31))) (aCons (eC (.str "")) (aCons (eC (.str "a")) (aCons (eC (.str "A")) (aCons (eC (.str "ab")) (aCons (eC (.str "abcdefghi")) (aCons (eC (.str "a b")) (aCons (eC (.str "aaaaaaaa")) (aCons (eTup aNil) (aCons (eLst aNil) (aCons (eC (.dict [])) aNil))))))))))))))))))))
  (sSeq (sSetS 3 (eBin gAdd (eVar 3) (eLst (aCons (eTup (aCons (eC (.str "a")) (aCons (eC (.str "b")) (aCons (eC (.bool true)) aNil)))) (aCons (eTup (aCons (eC (.str "b")) (aCons (eC (.str "a")) (aCons (eC (.bool true)) aNil)))) (aCons (eTup (aCons (eC (.str "a")) (aCons (eC (.str "b")) (aCons (eC (.int 1)) aNil)))) (aCons (eTup (aCons (eC (.str "a")) (aCons (eC (.str "a")) (aCons (eC (.bool true)) aNil)))) (aCons (eTup (aCons (eTup (aCons (eC (.str "a")) (aCons (eC (.str "b")) (aCons (eC (.bool true)) aNil)))) (aCons (eC (.bool true)) aNil))) aNil))))))))
  (sSeq (sSetS 3 (eBin gAdd (eVar 3) (eLst (aCons (eTup (aCons (eTup (aCons (eC (.str "a")) (aCons (eC (.str "b")) (aCons (eC (.bool false)) aNil)))) (aCons (eC (.bool true)) aNil))) (aCons (eTup (aCons (eTup (aCons (eC (.str "a")) (aCons (eC (.str "a")) (aCons (eC (.bool true)) aNil)))) (aCons (eC (.bool true)) aNil))) (aCons (eLst (aCons (eC (.str "a")) (aCons (eC (.str "b")) (aCons (eC (.bool false)) aNil)))) (aCons (eBin gMul (eLst (aCons (eC .none) aNil)) (eC (.int 900))) (aCons (eVar 1) aNil))))))))
  (sRet (eCall 2 m_L_one (aCons (eVar 0) (aCons (eVar 3) aNil)))))))))

def m_L_bent (self : FM) : FM := mfn 5 (sSeq (sSetS 2 (eCall 2 m_L_take (aCons (eVar 0) (aCons (eC (.int 8)) aNil))))
  (sSeq (sIf (tOrM (tBool (eBin gEq (eVar 2) (eC (.int 0)))) (tOrM (tNotM (tVal (eUn (fun d => some (.sh (.bool (isLT d)))) (eVar 1)))) (tBool (eBin gEq (eCB gLen (aCons (eVar 1) aNil)) (eC (.int 0))))))
  (sRet (eCall 1 m_L_odd_value (aCons (eVar 0) aNil))) sSkip)
  (sSeq (sFrzA [4] (sPar2 3 4 (eCB gList (aCons (eVar 1) aNil)) (eCall 2 m_L_take (aCons (eVar 0) (aCons (eCB gLen (aCons (eVar 1) aNil)) aNil)))))
  (sSeq (sIf (tBool (eBin gLt (eVar 2) (eC (.int 5))))
  (sStO 3 (eVar 4) (eCall 2 self (aCons (eVar 0) (aCons (eIxV 3 (eVar 4)) aNil)))) sSkip)
  (sSeq (sIf (tBool (eBin gEq (eVar 2) (eC (.int 5))))
  (sInsO 3 (eBin gAdd (eVar 4) (eCall 2 m_L_take (aCons (eVar 0) (aCons (eC (.int 2)) aNil)))) (eCall 1 m_L_odd_value (aCons (eVar 0) aNil))) sSkip)
  (sSeq (sIf (tBool (eBin gEq (eVar 2) (eC (.int 6))))
  (sPopO 3 (eVar 4)) sSkip)
  (sSeq (sIf (tBool (eBin gEq (eVar 2) (eC (.int 7))))
  (sFrz [3] (sSet 3 (eBin gAdd (eVar 3) (eSl (eVar 3) (oSome (eVar 4)) (oSome (eBin gAdd (eVar 4) (eC (.int 1)))))))) sSkip)
  (sSeq (sIf (tBool (eBin gEq (eCall 2 m_L_take (aCons (eVar 0) (aCons (eC (.int 6)) aNil))) (eC (.int 0))))
  (sFrz [3] (sRet (eIf (tVal (eUn (gIsi "list") (eVar 1))) (eCB gTuple (aCons (eVar 3) aNil)) (eVar 3)))) sSkip)
  (sFrz [3] (sRet (eIf (tVal (eUn (gIsi "list") (eVar 1))) (eVar 3) (eCB gTuple (aCons (eVar 3) aNil)))))))))))))

def mm_L_bent : FM := (m_L_bent (m_L_bent (m_L_bent (m_L_bent (m_L_bent (m_L_bent (fun _ _ => .bad)))))))

def m_lawS : SM := (sSeq (sFor (iRange (aCons (eC (.int 10)) aNil)) (fName 2)
  (sSeq (sSetS 3 (eCall 2 m_L_kinds (aCons (eVar 1) (aCons (eBin gAdd (eC (.int 1)) (eCall 2 m_L_take (aCons (eVar 1) (aCons (eC (.int 4)) aNil)))) aNil))))
  (sSeq (sSetS 4 (eCall 3 m_L_train (aCons (eVar 1) (aCons (eVar 3) (aCons (eC (.int 6)) aNil)))))
  (sSeq (sSetS 5 (eCall 2 m_L_take (aCons (eVar 1) (aCons (eCB gLen (aCons (eVar 4) aNil)) aNil))))
  (sSeq (sSet 6 (eLst (aCons (eVar 4) (aCons (eCall 2 mm_L_bent (aCons (eVar 1) (aCons (eVar 4) aNil))) (aCons (eCall 2 mm_L_bent (aCons (eVar 1) (aCons (eVar 4) aNil))) (aCons (eBin gAdd (eSl (eVar 4) oNone (oSome (eVar 5))) (eSl (eVar 4) (oSome (eBin gAdd (eVar 5) (eC (.int 1)))) oNone)) aNil))))))
  (sSeq (sFrz [6] (sSet 6 (eBin gAdd (eVar 6) (eLst (aCons (eCall 2 m_L_mixed (aCons (eVar 1) (aCons (eVar 4) aNil))) (aCons (eBin gAdd (eVar 4) (eSl (eVar 4) oNone (oSome (eC (.int 1))))) (aCons (eBin gAdd (eSl (eVar 4) (oSome (eVar 5)) (oSome (eBin gAdd (eVar 5) (eC (.int 1))))) (eVar 4)) aNil)))))))
  (sSeq (sFrz [6] (sSet 6 (eBin gAdd (eVar 6) (eLst (aCons (eCB gTuple (aCons (eVar 4) aNil)) (aCons (eBin gIx (eVar 4) (eC (.int 0))) (aCons (eBin gIx (eBin gIx (eVar 4) (eC (.int 0))) (eC (.int 1))) (aCons (eLst aNil) aNil))))))))
  (sSeq (sSetS 7 (eBin gIx (eBin gIx (eVar 4) (eVar 5)) (eC (.int 1))))
  (sSeq (sFor (iVal (eTup (aCons (eC (.int 2)) (aCons (eC (.int 0)) (aCons (eC (.bool true)) aNil))))) (fName 8)
  (sApp 6 (eBin gAdd (eBin gAdd (eSl (eVar 4) oNone (oSome (eVar 5))) (eLst (aCons (eTup (aCons (eVar 8) (aCons (eVar 7) aNil))) aNil))) (eSl (eVar 4) (oSome (eBin gAdd (eVar 5) (eC (.int 1)))) oNone))))
  (sSeq (sFrz [6] (sSet 6 (eBin gAdd (eVar 6) (eLst (aCons (eLst (aCons (eCB gList (aCons (eBin gIx (eVar 4) (eVar 5)) aNil)) aNil)) (aCons (eCall 1 m_L_odd_value (aCons (eVar 1) aNil)) aNil))))))
  (sFrz [6] (sFor (iVal (eVar 6)) (fName 9)
  (sSeq (sFrzA [11, 12] (sPar2 11 12 (eCB gReprD (aCons (eVar 9) aNil)) (eCall 1 m_L_is_train (aCons (eVar 9) aNil))))
  (sFor (iRange (aCons (eC (.int 2)) aNil)) (fName 10)
  (sIf (tNotM (tVal (eCall 2 m_L_alike (aCons (eLst (aCons (eCall 1 m_is_train (aCons (eVar 9) aNil)) (aCons (eCB gReprD (aCons (eVar 9) aNil)) aNil))) (aCons (eLst (aCons (eVar 12) (aCons (eVar 11) aNil))) aNil)))))
  (sRet (eC (.bool false))) sSkip)))))))))))))))
  (sRet (eC (.bool true))))

end K14
namespace K14
open PySem PySem.Spec PyProof.Rows L2 Mr
def topS (i : Nat) : Stmt := PySem.Challenge.pw_hookcarts_k14_trains_judged.main.body.getD i (.Pass ⟨0, 0, 0, 0⟩)
section
variable {P : Program} {w : World} {K : PySem.W.Frag} {mg : Str → Option Value} {base : Heap} {t_LETTERS t_MOST_LETTERS : Tok}
abbrev s_is_integer : Stmt := topS 3
theorem sc_is_integer : FnScope ["thing"] ["thing"] (defScope s_is_integer) := ⟨rfl, rfl, rfl, by decide +kernel, rfl, by decide +kernel, by decide +kernel⟩
theorem ok_is_integer {fa : Addr} {fd : FuncData} (F : Fun K "is_integer" "is_integer" s_is_integer fa fd) (hm : mg "is_integer" = some (.ref fa)) (bF : Binds K fd ["thing"] []) (hB : Bl mg)   : FnM P w K mg base 1 "is_integer" 1 m_is_integer :=
  FnM.of F hm bF sc_is_integer rfl fun cdv A out s H E hgu hr => show MSs (Cx.nox (cxOf CX0 P w K mg base ["thing"] "is_integer" (defScope s_is_integer) fa cdv A out s H E)) (defBody s_is_integer) _ from
    (mss_one (ms_ret (me_and (me_isi (T := "int") (by rfl) hB.isinstance_ (me_var 0 (pv 0)) (by rfl) hB.int_ PyProof.Rows.boot_int) (me_one (me_not (me_isi (T := "bool") (by rfl) hB.isinstance_ (me_var 0 (pv 0)) (by rfl) hB.bool_ PyProof.Rows.boot_bool))))))
abbrev s_is_number : Stmt := topS 4
theorem sc_is_number : FnScope ["least", "thing"] ["least", "thing"] (defScope s_is_number) := ⟨rfl, rfl, rfl, by decide +kernel, rfl, by decide +kernel, by decide +kernel⟩
theorem ok_is_number {fa : Addr} {fd : FuncData} (F : Fun K "is_number" "is_number" s_is_number fa fd) (hm : mg "is_number" = some (.ref fa)) (bF : Binds K fd ["least", "thing"] [])  (G_is_integer : FnM P w K mg base 1 "is_integer" 1 m_is_integer)  : FnM P w K mg base 2 "is_number" 2 m_is_number :=
  FnM.of F hm bF sc_is_number rfl fun cdv A out s H E hgu hr => show MSs (Cx.nox (cxOf CX0 P w K mg base ["least", "thing"] "is_number" (defScope s_is_number) fa cdv A out s H E)) (defBody s_is_number) _ from
    (mss_one (ms_ret (me_and (me_call G_is_integer hgu (hr.mono (by decide)) (by rfl) (ma_cons (me_var 1 (pv 1)) ma_nil)) (me_one (me_cmp (op_geM hr.units) (me_var 1 (pv 1)) (me_var 0 (pv 0)) (by first | exact nomark _ | rfl))))))
abbrev s_is_kind : Stmt := topS 5
theorem sc_is_kind : FnScope ["thing", "letter"] ["thing"] (defScope s_is_kind) := ⟨rfl, rfl, rfl, by decide +kernel, rfl, by decide +kernel, by decide +kernel⟩
theorem ok_is_kind {fa : Addr} {fd : FuncData} (F : Fun K "is_kind" "is_kind" s_is_kind fa fd) (hm : mg "is_kind" = some (.ref fa)) (bF : Binds K fd ["thing"] []) (hB : Bl mg)  (g_MOST_LETTERS : mg "MOST_LETTERS" = some (.int 8 t_MOST_LETTERS)) (g_LETTERS : mg "LETTERS" = some (.str "abcdefghijklmnopqrstuvwxyz" t_LETTERS))  : FnM P w K mg base 1 "is_kind" 1 m_is_kind :=
  FnM.of F hm bF sc_is_kind rfl fun cdv A out s H E hgu hr => show MSs (Cx.nox (cxOf CX0 P w K mg base ["thing", "letter"] "is_kind" (defScope s_is_kind) fa cdv A out s H E)) (defBody s_is_kind) _ from
    (mss_one (ms_ret (me_and (me_isi (T := "str") (by rfl) hB.isinstance_ (me_var 0 (pv 0)) (by rfl) hB.str_ PyProof.Rows.boot_str) (me_and (me_chain (op_ltM hr.units) (op_leM hr.units) me_int (me_cb cr_lenM (by rfl) hB.len_ PySem.boot_len (ma_cons (me_var 0 (pv 0)) ma_nil)) (me_gi (by rfl) g_MOST_LETTERS)) (me_one (me_cb (cr_allM (by rfl)) (by rfl) hB.all_ PyProof.Rows.boot_all (ma_cons (me_lc (by rfl) sc_is_kind.nd (own := [("letter", 1)]) (mi_val (me_var 0 (pv 0))) (blkOk_by (N := ["thing", "letter"]) (sc := defScope s_is_kind) (by decide +kernel)) (by decide) (fun _ _ _ _ _ => (mg_name (i := 1) sc_is_kind.nd rfl (by first | exact Or.inl rfl | exact Or.inr rfl))) (fun _ _ _ _ _ => mts_nil) (fun _ _ _ _ _ => (me_cmp (op_inM hr.units) (me_var 1 (pv 1)) (me_gs (by rfl) g_LETTERS) (by first | exact nomark _ | rfl)))) ma_nil)))))))
abbrev s_is_cart : Stmt := topS 6
theorem sc_is_cart : FnScope ["thing"] ["thing"] (defScope s_is_cart) := ⟨rfl, rfl, rfl, by decide +kernel, rfl, by decide +kernel, by decide +kernel⟩
theorem ok_is_cart {fa : Addr} {fd : FuncData} (F : Fun K "is_cart" "is_cart" s_is_cart fa fd) (hm : mg "is_cart" = some (.ref fa)) (bF : Binds K fd ["thing"] []) (hB : Bl mg) (G_is_kind : FnM P w K mg base 1 "is_kind" 1 m_is_kind)  : FnM P w K mg base 2 "is_cart" 1 m_is_cart :=
  FnM.of F hm bF sc_is_cart rfl fun cdv A out s H E hgu hr => show MSs (Cx.nox (cxOf CX0 P w K mg base ["thing"] "is_cart" (defScope s_is_cart) fa cdv A out s H E)) (defBody s_is_cart) _ from
    (mss_cons (ms_if (mt_w (mw_or (mt_not (mt_val (me_isi (T := "tuple") (by rfl) hB.isinstance_ (me_var 0 (pv 0)) (by rfl) hB.tuple_ PyProof.Rows.boot_tuple))) (mw_or (mt_cmp (op_neM hr.units) (me_cb cr_lenM (by rfl) hB.len_ PySem.boot_len (ma_cons (me_var 0 (pv 0)) ma_nil)) me_int (by first | exact nomark _ | rfl)) (mw_or1 (mt_not (mt_val (me_isi (T := "bool") (by rfl) hB.isinstance_ (me_ix (me_var 0 (pv 0)) me_int) (by rfl) hB.bool_ PyProof.Rows.boot_bool)))))))
    (mss_one (ms_ret me_bl)) mss_nil)
    (mss_one (ms_ret (me_and (me_call G_is_kind hgu (hr.mono (by decide)) (by rfl) (ma_cons (me_ix (me_var 0 (pv 0)) me_int) ma_nil)) (me_and (me_call G_is_kind hgu (hr.mono (by decide)) (by rfl) (ma_cons (me_ix (me_var 0 (pv 0)) me_int) ma_nil)) (me_one (me_or (me_not (me_ix (me_var 0 (pv 0)) me_int)) (me_one (me_cmp (op_leM hr.units) (me_ix (me_var 0 (pv 0)) me_int) (me_ix (me_var 0 (pv 0)) me_int) (by first | exact nomark _ | rfl))))))))))
abbrev s_is_step : Stmt := topS 7
theorem sc_is_step : FnScope ["thing"] ["thing"] (defScope s_is_step) := ⟨rfl, rfl, rfl, by decide +kernel, rfl, by decide +kernel, by decide +kernel⟩
theorem ok_is_step {fa : Addr} {fd : FuncData} (F : Fun K "is_step" "is_step" s_is_step fa fd) (hm : mg "is_step" = some (.ref fa)) (bF : Binds K fd ["thing"] []) (hB : Bl mg) (G_is_cart : FnM P w K mg base 2 "is_cart" 1 m_is_cart)  : FnM P w K mg base 3 "is_step" 1 m_is_step :=
  FnM.of F hm bF sc_is_step rfl fun cdv A out s H E hgu hr => show MSs (Cx.nox (cxOf CX0 P w K mg base ["thing"] "is_step" (defScope s_is_step) fa cdv A out s H E)) (defBody s_is_step) _ from
    (mss_cons (ms_if (mt_w (mw_or (mt_not (mt_val (me_isi (T := "tuple") (by rfl) hB.isinstance_ (me_var 0 (pv 0)) (by rfl) hB.tuple_ PyProof.Rows.boot_tuple))) (mw_or (mt_cmp (op_neM hr.units) (me_cb cr_lenM (by rfl) hB.len_ PySem.boot_len (ma_cons (me_var 0 (pv 0)) ma_nil)) me_int (by first | exact nomark _ | rfl)) (mw_or (mt_not (mt_val (me_call G_is_cart hgu (hr.mono (by decide)) (by rfl) (ma_cons (me_ix (me_var 0 (pv 0)) me_int) ma_nil)))) (mw_or1 (mt_not (mt_val (me_isi (T := "bool") (by rfl) hB.isinstance_ (me_ix (me_var 0 (pv 0)) me_int) (by rfl) hB.bool_ PyProof.Rows.boot_bool))))))))
    (mss_one (ms_ret me_bl)) mss_nil)
    (mss_one (ms_ret (me_or (me_not (me_ix (me_var 0 (pv 0)) me_int)) (me_one (me_and (me_ix (me_ix (me_var 0 (pv 0)) me_int) me_int) (me_one (me_cmp (op_neM hr.units) (me_ix (me_ix (me_var 0 (pv 0)) me_int) me_int) (me_ix (me_ix (me_var 0 (pv 0)) me_int) me_int) (by first | exact nomark _ | rfl)))))))))
abbrev s_begin_of : Stmt := topS 9
theorem sc_begin_of : FnScope ["step", "turned", "front", "back", "turns"] ["step"] (defScope s_begin_of) := ⟨rfl, rfl, rfl, by decide +kernel, rfl, by decide +kernel, by decide +kernel⟩
theorem ok_begin_of {fa : Addr} {fd : FuncData} (F : Fun K "begin_of" "begin_of" s_begin_of fa fd) (hm : mg "begin_of" = some (.ref fa)) (bF : Binds K fd ["step"] [])    : FnM P w K mg base 1 "begin_of" 1 m_begin_of :=
  FnM.of F hm bF sc_begin_of rfl fun cdv A out s H E hgu hr => show MSs (Cx.nox (cxOf CX0 P w K mg base ["step", "turned", "front", "back", "turns"] "begin_of" (defScope s_begin_of) fa cdv A out s H E)) (defBody s_begin_of) _ from
    (mss_cons (ms_unp (me_var 0 (pv 0)) (mg_tup (by rfl) (mgs_cons (mg_tup (by rfl) (mgs_cons (mg_name (i := 2) sc_begin_of.nd rfl (by first | exact Or.inl rfl | exact Or.inr rfl)) (mgs_cons (mg_name (i := 3) sc_begin_of.nd rfl (by first | exact Or.inl rfl | exact Or.inr rfl)) (mgs_cons (mg_name (i := 4) sc_begin_of.nd rfl (by first | exact Or.inl rfl | exact Or.inr rfl)) mgs_nil)))) (mgs_cons (mg_name (i := 1) sc_begin_of.nd rfl (by first | exact Or.inl rfl | exact Or.inr rfl)) mgs_nil))))
    (mss_one (ms_ret (me_if (mt_val (me_var 1 (pv 1))) (me_var 3 (pv 3)) (me_var 2 (pv 2))))))
abbrev s_end_of : Stmt := topS 10
theorem sc_end_of : FnScope ["step", "turned", "front", "back", "turns"] ["step"] (defScope s_end_of) := ⟨rfl, rfl, rfl, by decide +kernel, rfl, by decide +kernel, by decide +kernel⟩
theorem ok_end_of {fa : Addr} {fd : FuncData} (F : Fun K "end_of" "end_of" s_end_of fa fd) (hm : mg "end_of" = some (.ref fa)) (bF : Binds K fd ["step"] [])    : FnM P w K mg base 1 "end_of" 1 m_end_of :=
  FnM.of F hm bF sc_end_of rfl fun cdv A out s H E hgu hr => show MSs (Cx.nox (cxOf CX0 P w K mg base ["step", "turned", "front", "back", "turns"] "end_of" (defScope s_end_of) fa cdv A out s H E)) (defBody s_end_of) _ from
    (mss_cons (ms_unp (me_var 0 (pv 0)) (mg_tup (by rfl) (mgs_cons (mg_tup (by rfl) (mgs_cons (mg_name (i := 2) sc_end_of.nd rfl (by first | exact Or.inl rfl | exact Or.inr rfl)) (mgs_cons (mg_name (i := 3) sc_end_of.nd rfl (by first | exact Or.inl rfl | exact Or.inr rfl)) (mgs_cons (mg_name (i := 4) sc_end_of.nd rfl (by first | exact Or.inl rfl | exact Or.inr rfl)) mgs_nil)))) (mgs_cons (mg_name (i := 1) sc_end_of.nd rfl (by first | exact Or.inl rfl | exact Or.inr rfl)) mgs_nil))))
    (mss_one (ms_ret (me_if (mt_val (me_var 1 (pv 1))) (me_var 2 (pv 2)) (me_var 3 (pv 3))))))
abbrev s_couple : Stmt := topS 11
theorem sc_couple : FnScope ["step", "other"] ["step", "other"] (defScope s_couple) := ⟨rfl, rfl, rfl, by decide +kernel, rfl, by decide +kernel, by decide +kernel⟩
theorem ok_couple {fa : Addr} {fd : FuncData} (F : Fun K "couple" "couple" s_couple fa fd) (hm : mg "couple" = some (.ref fa)) (bF : Binds K fd ["step", "other"] [])  (G_end_of : FnM P w K mg base 1 "end_of" 1 m_end_of) (G_begin_of : FnM P w K mg base 1 "begin_of" 1 m_begin_of)  : FnM P w K mg base 2 "couple" 2 m_couple :=
  FnM.of F hm bF sc_couple rfl fun cdv A out s H E hgu hr => show MSs (Cx.nox (cxOf CX0 P w K mg base ["step", "other"] "couple" (defScope s_couple) fa cdv A out s H E)) (defBody s_couple) _ from
    (mss_one (ms_ret (me_cmp (op_eqM hr.units) (me_call G_end_of hgu (hr.mono (by decide)) (by rfl) (ma_cons (me_var 0 (pv 0)) ma_nil)) (me_call G_begin_of hgu (hr.mono (by decide)) (by rfl) (ma_cons (me_var 1 (pv 1)) ma_nil)) (by first | exact nomark _ | rfl))))
abbrev s_is_row : Stmt := topS 13
theorem sc_is_row : FnScope ["thing", "step", "other"] ["thing"] (defScope s_is_row) := ⟨rfl, rfl, rfl, by decide +kernel, rfl, by decide +kernel, by decide +kernel⟩
theorem ok_is_row {fa : Addr} {fd : FuncData} (F : Fun K "is_row" "is_row" s_is_row fa fd) (hm : mg "is_row" = some (.ref fa)) (bF : Binds K fd ["thing"] []) (hB : Bl mg) (G_is_step : FnM P w K mg base 3 "is_step" 1 m_is_step) (G_couple : FnM P w K mg base 2 "couple" 2 m_couple)  : FnM P w K mg base 4 "is_row" 1 m_is_row :=
  FnM.of F hm bF sc_is_row rfl fun cdv A out s H E hgu hr => show MSs (Cx.nox (cxOf CX0 P w K mg base ["thing", "step", "other"] "is_row" (defScope s_is_row) fa cdv A out s H E)) (defBody s_is_row) _ from
    (mss_cons (ms_if (mt_w (mw_or (mt_not (mt_val (me_isi (T := "list") (by rfl) hB.isinstance_ (me_var 0 (pv 0)) (by rfl) hB.list_ PyProof.Rows.boot_list))) (mw_or (mt_cmp (op_eqN hr.units) (me_var 0 (pv 0)) (me_lst ma_nil) (by first | exact nomark _ | rfl)) (mw_or1 (mt_not (mt_val (me_cb (cr_allM (by rfl)) (by rfl) hB.all_ PyProof.Rows.boot_all (ma_cons (me_lc (by rfl) sc_is_row.nd (own := [("step", 1)]) (mi_val (me_var 0 (pv 0))) (blkOk_by (N := ["thing", "step", "other"]) (sc := defScope s_is_row) (by decide +kernel)) (by decide) (fun _ _ _ _ _ => (mg_name (i := 1) sc_is_row.nd rfl (by first | exact Or.inl rfl | exact Or.inr rfl))) (fun _ _ _ _ _ => mts_nil) (fun _ _ _ _ _ => (me_call G_is_step hgu (hr.mono (by decide)) (by rfl) (ma_cons (me_var 1 (pv 1)) ma_nil)))) ma_nil))))))))
    (mss_one (ms_ret me_bl)) mss_nil)
    (mss_one (ms_ret (me_cb (cr_allM (by rfl)) (by rfl) hB.all_ PyProof.Rows.boot_all (ma_cons (me_lc (by rfl) sc_is_row.nd (own := [("step", 1), ("other", 2)]) (mi_zip (by rfl) hB.zip_ (ma_cons (me_var 0 (pv 0)) (ma_cons (me_sl (me_var 0 (pv 0)) (mo_some me_int) mo_none) ma_nil))) (blkOk_by (N := ["thing", "step", "other"]) (sc := defScope s_is_row) (by decide +kernel)) (by decide) (fun _ _ _ _ _ => (mg_tup (by rfl) (mgs_cons (mg_name (i := 1) sc_is_row.nd rfl (by first | exact Or.inl rfl | exact Or.inr rfl)) (mgs_cons (mg_name (i := 2) sc_is_row.nd rfl (by first | exact Or.inl rfl | exact Or.inr rfl)) mgs_nil)))) (fun _ _ _ _ _ => mts_nil) (fun _ _ _ _ _ => (me_call G_couple hgu (hr.mono (by decide)) (by rfl) (ma_cons (me_var 1 (pv 1)) (ma_cons (me_var 2 (pv 2)) ma_nil))))) ma_nil)))))
abbrev s_row_ends : Stmt := topS 14
theorem sc_row_ends : FnScope ["row"] ["row"] (defScope s_row_ends) := ⟨rfl, rfl, rfl, by decide +kernel, rfl, by decide +kernel, by decide +kernel⟩
theorem ok_row_ends {fa : Addr} {fd : FuncData} (F : Fun K "row_ends" "row_ends" s_row_ends fa fd) (hm : mg "row_ends" = some (.ref fa)) (bF : Binds K fd ["row"] [])  (G_begin_of : FnM P w K mg base 1 "begin_of" 1 m_begin_of) (G_end_of : FnM P w K mg base 1 "end_of" 1 m_end_of)  : FnM P w K mg base 2 "row_ends" 1 m_row_ends :=
  FnM.of F hm bF sc_row_ends rfl fun cdv A out s H E hgu hr => show MSs (Cx.nox (cxOf CX0 P w K mg base ["row"] "row_ends" (defScope s_row_ends) fa cdv A out s H E)) (defBody s_row_ends) _ from
    (mss_one (ms_ret (me_tup (ma_cons (me_call G_begin_of hgu (hr.mono (by decide)) (by rfl) (ma_cons (me_ix (me_var 0 (pv 0)) me_int) ma_nil)) (ma_cons (me_call G_end_of hgu (hr.mono (by decide)) (by rfl) (ma_cons (me_ix (me_var 0 (pv 0)) (me_un un_negM me_int)) ma_nil)) ma_nil)))))
abbrev s_is_part : Stmt := topS 16
theorem sc_is_part : FnScope ["thing", "begin", "end"] ["thing"] (defScope s_is_part) := ⟨rfl, rfl, rfl, by decide +kernel, rfl, by decide +kernel, by decide +kernel⟩
theorem ok_is_part {fa : Addr} {fd : FuncData} (F : Fun K "is_part" "is_part" s_is_part fa fd) (hm : mg "is_part" = some (.ref fa)) (bF : Binds K fd ["thing"] []) (hB : Bl mg) (G_is_number : FnM P w K mg base 2 "is_number" 2 m_is_number) (G_is_row : FnM P w K mg base 4 "is_row" 1 m_is_row) (G_row_ends : FnM P w K mg base 2 "row_ends" 1 m_row_ends)  : FnM P w K mg base 5 "is_part" 1 m_is_part :=
  FnM.of F hm bF sc_is_part rfl fun cdv A out s H E hgu hr => show MSs (Cx.nox (cxOf CX0 P w K mg base ["thing", "begin", "end"] "is_part" (defScope s_is_part) fa cdv A out s H E)) (defBody s_is_part) _ from
    (mss_cons (ms_if (mt_w (mw_or (mt_not (mt_val (me_isi (T := "tuple") (by rfl) hB.isinstance_ (me_var 0 (pv 0)) (by rfl) hB.tuple_ PyProof.Rows.boot_tuple))) (mw_or (mt_cmp (op_neM hr.units) (me_cb cr_lenM (by rfl) hB.len_ PySem.boot_len (ma_cons (me_var 0 (pv 0)) ma_nil)) me_int (by first | exact nomark _ | rfl)) (mw_or (mt_not (mt_val (me_call G_is_number hgu (hr.mono (by decide)) (by rfl) (ma_cons me_int (ma_cons (me_ix (me_var 0 (pv 0)) me_int) ma_nil))))) (mw_or1 (mt_not (mt_val (me_call G_is_row hgu (hr.mono (by decide)) (by rfl) (ma_cons (me_ix (me_var 0 (pv 0)) me_int) ma_nil)))))))))
    (mss_one (ms_ret me_bl)) mss_nil)
    (mss_cons (ms_unp (me_call G_row_ends hgu (hr.mono (by decide)) (by rfl) (ma_cons (me_ix (me_var 0 (pv 0)) me_int) ma_nil)) (mg_tup (by rfl) (mgs_cons (mg_name (i := 1) sc_is_part.nd rfl (by first | exact Or.inl rfl | exact Or.inr rfl)) (mgs_cons (mg_name (i := 2) sc_is_part.nd rfl (by first | exact Or.inl rfl | exact Or.inr rfl)) mgs_nil))))
    (mss_one (ms_ret (me_or (me_cmp (op_eqM hr.units) (me_ix (me_var 0 (pv 0)) me_int) me_int (by first | exact nomark _ | rfl)) (me_one (me_cmp (op_eqM hr.units) (me_var 1 (pv 1)) (me_var 2 (pv 2)) (by first | exact nomark _ | rfl))))))))
abbrev s_is_train : Stmt := topS 17
theorem sc_is_train : FnScope ["thing", "part", "other"] ["thing"] (defScope s_is_train) := ⟨rfl, rfl, rfl, by decide +kernel, rfl, by decide +kernel, by decide +kernel⟩
theorem ok_is_train {fa : Addr} {fd : FuncData} (F : Fun K "is_train" "is_train" s_is_train fa fd) (hm : mg "is_train" = some (.ref fa)) (bF : Binds K fd ["thing"] []) (hB : Bl mg) (G_is_part : FnM P w K mg base 5 "is_part" 1 m_is_part) (G_row_ends : FnM P w K mg base 2 "row_ends" 1 m_row_ends)  : FnM P w K mg base 6 "is_train" 1 m_is_train :=
  FnM.of F hm bF sc_is_train rfl fun cdv A out s H E hgu hr => show MSs (Cx.nox (cxOf CX0 P w K mg base ["thing", "part", "other"] "is_train" (defScope s_is_train) fa cdv A out s H E)) (defBody s_is_train) _ from
    (mss_cons (ms_if (mt_w (mw_or (mt_not (mt_val (me_isi (T := "list") (by rfl) hB.isinstance_ (me_var 0 (pv 0)) (by rfl) hB.list_ PyProof.Rows.boot_list))) (mw_or (mt_cmp (op_eqN hr.units) (me_var 0 (pv 0)) (me_lst ma_nil) (by first | exact nomark _ | rfl)) (mw_or1 (mt_not (mt_val (me_cb (cr_allM (by rfl)) (by rfl) hB.all_ PyProof.Rows.boot_all (ma_cons (me_lc (by rfl) sc_is_train.nd (own := [("part", 1)]) (mi_val (me_var 0 (pv 0))) (blkOk_by (N := ["thing", "part", "other"]) (sc := defScope s_is_train) (by decide +kernel)) (by decide) (fun _ _ _ _ _ => (mg_name (i := 1) sc_is_train.nd rfl (by first | exact Or.inl rfl | exact Or.inr rfl))) (fun _ _ _ _ _ => mts_nil) (fun _ _ _ _ _ => (me_call G_is_part hgu (hr.mono (by decide)) (by rfl) (ma_cons (me_var 1 (pv 1)) ma_nil)))) ma_nil))))))))
    (mss_one (ms_ret me_bl)) mss_nil)
    (mss_one (ms_ret (me_cb (cr_allM (by rfl)) (by rfl) hB.all_ PyProof.Rows.boot_all (ma_cons (me_lc (by rfl) sc_is_train.nd (own := [("part", 1), ("other", 2)]) (mi_zip (by rfl) hB.zip_ (ma_cons (me_var 0 (pv 0)) (ma_cons (me_sl (me_var 0 (pv 0)) (mo_some me_int) mo_none) ma_nil))) (blkOk_by (N := ["thing", "part", "other"]) (sc := defScope s_is_train) (by decide +kernel)) (by decide) (fun _ _ _ _ _ => (mg_tup (by rfl) (mgs_cons (mg_name (i := 1) sc_is_train.nd rfl (by first | exact Or.inl rfl | exact Or.inr rfl)) (mgs_cons (mg_name (i := 2) sc_is_train.nd rfl (by first | exact Or.inl rfl | exact Or.inr rfl)) mgs_nil)))) (fun _ _ _ _ _ => mts_nil) (fun _ _ _ _ _ => (me_cmp (op_eqM hr.units) (me_ix (me_call G_row_ends hgu (hr.mono (by decide)) (by rfl) (ma_cons (me_ix (me_var 1 (pv 1)) me_int) ma_nil)) me_int) (me_ix (me_call G_row_ends hgu (hr.mono (by decide)) (by rfl) (ma_cons (me_ix (me_var 2 (pv 2)) me_int) ma_nil)) me_int) (by first | exact nomark _ | rfl)))) ma_nil)))))
abbrev s_L_take : Stmt := topS 20
theorem sc_L_take : FnScope ["_law_bag_here", "_law_many", "_law_early", "_law_second", "_law_cell", "_law_mixed_here", "_law_drawn"] ["_law_bag_here", "_law_many"] (defScope s_L_take) := ⟨rfl, rfl, rfl, by decide +kernel, rfl, by decide +kernel, by decide +kernel⟩
theorem ok_L_take {fa : Addr} {fd : FuncData} (F : Fun K "_law_take" "_law_take" s_L_take fa fd) (hm : mg "_law_take" = some (.ref fa)) (bF : Binds K fd ["_law_bag_here", "_law_many"] []) (hB : Bl mg)   : FnM P w K mg base 1 "_law_take" 2 m_L_take :=
  FnM.of F hm bF sc_L_take rfl fun cdv A out s H E hgu hr => show MSs (Cx.nox (cxOf CX0 P w K mg base ["_law_bag_here", "_law_many", "_law_early", "_law_second", "_law_cell", "_law_mixed_here", "_law_drawn"] "_law_take" (defScope s_L_take) fa cdv A out s H E)) (defBody s_L_take) _ from
    (mss_cons (ms_if (mt_cmp (op_eqM hr.units) (me_bg (j := 0) (k := 0) (pv 0)) me_int (by first | exact nomark _ | rfl))
    (mss_cons (ms_setS (i := 4) sc_L_take.nd rfl (by first | exact Or.inl rfl | exact Or.inr rfl) me_int)
    (mss_cons (ms_if (mt_cmp (op_ltM hr.units) (me_bg (j := 0) (k := 2) (pv 0)) (me_cb cr_lenM (by rfl) hB.len_ PySem.boot_len (ma_cons (me_bg (j := 0) (k := 3) (pv 0)) ma_nil)) (by first | exact nomark _ | rfl))
    (mss_one (ms_setS (i := 4) sc_L_take.nd rfl (by first | exact Or.inl rfl | exact Or.inr rfl) (me_ix (me_bg (j := 0) (k := 3) (pv 0)) (me_bg (j := 0) (k := 2) (pv 0))))) mss_nil)
    (mss_cons (ms_bgAdd (j := 0) (k := 2) (pv 0) me_int)
    (mss_cons (ms_if (mt_cmp (op_geM hr.units) (me_var 4 (pv 4)) me_int (by first | exact nomark _ | rfl))
    (mss_one (ms_bg (j := 0) (k := 0) (pv 0) (me_var 4 (pv 4)))) mss_nil)
    (mss_cons (ms_setS (i := 5) sc_L_take.nd rfl (by first | exact Or.inl rfl | exact Or.inr rfl) (me_op op_addM (me_op op_addM (me_op op_mulM (me_bg (j := 0) (k := 1) (pv 0)) me_int) (me_op op_modM (me_ct cr_intM (by rfl) hB.int_ PyProof.Rows.boot_int (ma_cons (me_var 4 (pv 4)) ma_nil)) me_int)) (me_op op_mulM me_int (me_bg (j := 0) (k := 2) (pv 0)))))
    (mss_one (ms_bg (j := 0) (k := 1) (pv 0) (me_op op_modM (me_ct cr_intM (by rfl) hB.int_ PyProof.Rows.boot_int (ma_cons (me_var 5 (pv 5)) ma_nil)) me_int)))))))) mss_nil)
    (mss_cons (ms_if (mt_cmp (op_gtM hr.units) (me_bg (j := 0) (k := 0) (pv 0)) me_int (by first | exact nomark _ | rfl))
    (mss_cons (ms_setS (i := 6) sc_L_take.nd rfl (by first | exact Or.inl rfl | exact Or.inr rfl) (me_op op_modM (me_ct cr_intM (by rfl) hB.int_ PyProof.Rows.boot_int (ma_cons (me_bg (j := 0) (k := 0) (pv 0)) ma_nil)) (me_var 1 (pv 1))))
    (mss_cons (ms_bg (j := 0) (k := 0) (pv 0) (me_op op_fdivM (me_bg (j := 0) (k := 0) (pv 0)) (me_var 1 (pv 1))))
    (mss_one (ms_ret (me_var 6 (pv 6)))))) mss_nil)
    (mss_cons (ms_setS (i := 2) sc_L_take.nd rfl (by first | exact Or.inl rfl | exact Or.inr rfl) (me_op op_modM (me_ct cr_intM (by rfl) hB.int_ PyProof.Rows.boot_int (ma_cons (me_op op_mulM (me_op op_addM (me_bg (j := 0) (k := 1) (pv 0)) me_int) me_int) ma_nil)) me_int))
    (mss_cons (ms_setS (i := 3) sc_L_take.nd rfl (by first | exact Or.inl rfl | exact Or.inr rfl) (me_op op_modM (me_ct cr_intM (by rfl) hB.int_ PyProof.Rows.boot_int (ma_cons (me_op op_mulM (me_op op_modM (me_ct cr_intM (by rfl) hB.int_ PyProof.Rows.boot_int (ma_cons (me_op op_mulM (me_var 2 (pv 2)) (me_var 2 (pv 2))) ma_nil)) me_int) me_int) ma_nil)) me_int))
    (mss_one (ms_ret (me_op op_modM (me_ct cr_intM (by rfl) hB.int_ PyProof.Rows.boot_int (ma_cons (me_op op_fdivM (me_var 3 (pv 3)) me_int) ma_nil)) (me_var 1 (pv 1)))))))))
abbrev s_L_alike : Stmt := topS 21
theorem sc_L_alike : FnScope ["_law_found", "_law_due"] ["_law_found", "_law_due"] (defScope s_L_alike) := ⟨rfl, rfl, rfl, by decide +kernel, rfl, by decide +kernel, by decide +kernel⟩
theorem ok_L_alike {fa : Addr} {fd : FuncData} (F : Fun K "_law_alike" "_law_alike" s_L_alike fa fd) (hm : mg "_law_alike" = some (.ref fa)) (bF : Binds K fd ["_law_found", "_law_due"] []) (hB : Bl mg)   : FnM P w K mg base 1 "_law_alike" 2 m_L_alike :=
  FnM.of F hm bF sc_L_alike rfl fun cdv A out s H E hgu hr => show MSs (Cx.nox (cxOf CX0 P w K mg base ["_law_found", "_law_due"] "_law_alike" (defScope s_L_alike) fa cdv A out s H E)) (defBody s_L_alike) _ from
    (mss_one (ms_ret (me_and (me_cmp (op_eqM hr.units) (me_var 0 (pv 0)) (me_var 1 (pv 1)) (by first | exact nomark _ | rfl)) (me_one (me_cmp (op_eqM hr.units) (me_cb (cr_reprM hgu hr.units) (by rfl) hB.repr_ PyProof.Rows.boot_repr (ma_cons (me_var 0 (pv 0)) ma_nil)) (me_cb (cr_reprM hgu hr.units) (by rfl) hB.repr_ PyProof.Rows.boot_repr (ma_cons (me_var 1 (pv 1)) ma_nil)) (by first | exact nomark _ | rfl))))))
abbrev s_L_one : Stmt := topS 22
theorem sc_L_one : FnScope ["_law_bag_here", "_law_things"] ["_law_bag_here", "_law_things"] (defScope s_L_one) := ⟨rfl, rfl, rfl, by decide +kernel, rfl, by decide +kernel, by decide +kernel⟩
theorem ok_L_one {fa : Addr} {fd : FuncData} (F : Fun K "_law_one" "_law_one" s_L_one fa fd) (hm : mg "_law_one" = some (.ref fa)) (bF : Binds K fd ["_law_bag_here", "_law_things"] []) (hB : Bl mg) (G_L_take : FnM P w K mg base 1 "_law_take" 2 m_L_take)  : FnM P w K mg base 2 "_law_one" 2 m_L_one :=
  FnM.of F hm bF sc_L_one rfl fun cdv A out s H E hgu hr => show MSs (Cx.nox (cxOf CX0 P w K mg base ["_law_bag_here", "_law_things"] "_law_one" (defScope s_L_one) fa cdv A out s H E)) (defBody s_L_one) _ from
    (mss_one (ms_ret (me_ix (me_var 1 (pv 1)) (me_call G_L_take hgu (hr.mono (by decide)) (by rfl) (ma_cons (me_var 0 (pv 0)) (ma_cons (me_cb cr_lenM (by rfl) hB.len_ PySem.boot_len (ma_cons (me_var 1 (pv 1)) ma_nil)) ma_nil))))))
abbrev s_L_mixed : Stmt := topS 23
theorem sc_L_mixed : FnScope ["_law_bag_here", "_law_things", "_law_found", "_law_thing"] ["_law_bag_here", "_law_things"] (defScope s_L_mixed) := ⟨rfl, rfl, rfl, by decide +kernel, rfl, by decide +kernel, by decide +kernel⟩
theorem ok_L_mixed {fa : Addr} {fd : FuncData} (F : Fun K "_law_mixed" "_law_mixed" s_L_mixed fa fd) (hm : mg "_law_mixed" = some (.ref fa)) (bF : Binds K fd ["_law_bag_here", "_law_things"] []) (hB : Bl mg) (G_L_take : FnM P w K mg base 1 "_law_take" 2 m_L_take)  : FnM P w K mg base 2 "_law_mixed" 2 m_L_mixed :=
  FnM.of F hm bF sc_L_mixed rfl fun cdv A out s H E hgu hr => show MSs (Cx.nox (cxOf CX0 P w K mg base ["_law_bag_here", "_law_things", "_law_found", "_law_thing"] "_law_mixed" (defScope s_L_mixed) fa cdv A out s H E)) (defBody s_L_mixed) _ from
    (mss_cons (ms_set (i := 2) sc_L_mixed.nd rfl (by first | exact Or.inl rfl | exact Or.inr rfl) (me_lst ma_nil))
    (mss_cons (ms_for PassesOwn.never (by rfl) (mi_val (me_var 1 (pv 1))) (mg_name (i := 3) sc_L_mixed.nd rfl (by first | exact Or.inl rfl | exact Or.inr rfl))
    (mss_one (ms_insO (i := 2) (pv 2) (me_call G_L_take hgu (hr.mono (by decide)) (by rfl) (ma_cons (me_var 0 (pv 0)) (ma_cons (me_op op_addM (me_scal [2] (me_cb cr_lenM (by rfl) hB.len_ PySem.boot_len (ma_cons (me_var 2 (pv 2)) ma_nil))) me_int) ma_nil))) (me_var 3 (pv 3)))))
    (mss_one (ms_retO (i := 2) (pv 2)))))
abbrev s_L_kinds : Stmt := topS 24
theorem sc_L_kinds : FnScope ["_law_bag_here", "_law_many", "_law_menu", "_law_stem", "_law_way", "_law_turn", "_law_k"] ["_law_bag_here", "_law_many"] (defScope s_L_kinds) := ⟨rfl, rfl, rfl, by decide +kernel, rfl, by decide +kernel, by decide +kernel⟩
theorem ok_L_kinds {fa : Addr} {fd : FuncData} (F : Fun K "_law_kinds" "_law_kinds" s_L_kinds fa fd) (hm : mg "_law_kinds" = some (.ref fa)) (bF : Binds K fd ["_law_bag_here", "_law_many"] []) (hB : Bl mg) (G_L_take : FnM P w K mg base 1 "_law_take" 2 m_L_take)  : FnM P w K mg base 2 "_law_kinds" 2 m_L_kinds :=
  FnM.of F hm bF sc_L_kinds rfl fun cdv A out s H E hgu hr => show MSs (Cx.nox (cxOf CX0 P w K mg base ["_law_bag_here", "_law_many", "_law_menu", "_law_stem", "_law_way", "_law_turn", "_law_k"] "_law_kinds" (defScope s_L_kinds) fa cdv A out s H E)) (defBody s_L_kinds) _ from
    (mss_cons (ms_unp (me_tup (ma_cons (me_call G_L_take hgu (hr.mono (by decide)) (by rfl) (ma_cons (me_var 0 (pv 0)) (ma_cons me_int ma_nil))) (ma_cons (me_call G_L_take hgu (hr.mono (by decide)) (by rfl) (ma_cons (me_var 0 (pv 0)) (ma_cons me_int ma_nil))) ma_nil))) (mg_tup (by rfl) (mgs_cons (mg_name (i := 4) sc_L_kinds.nd rfl (by first | exact Or.inl rfl | exact Or.inr rfl)) (mgs_cons (mg_name (i := 5) sc_L_kinds.nd rfl (by first | exact Or.inl rfl | exact Or.inr rfl)) mgs_nil))))
    (mss_cons (ms_setS (i := 2) sc_L_kinds.nd rfl (by first | exact Or.inl rfl | exact Or.inr rfl) (me_lst (ma_cons me_str (ma_cons me_str (ma_cons me_str (ma_cons me_str (ma_cons me_str (ma_cons me_str (ma_cons me_str (ma_cons me_str (ma_cons me_str (ma_cons me_str (ma_cons me_str (ma_cons me_str ma_nil))))))))))))))
    (mss_cons (ms_if (mt_cmp (op_eqM hr.units) (me_var 4 (pv 4)) me_int (by first | exact nomark _ | rfl))
    (mss_one (ms_ret (me_cb (cr_sortedM hr.units) (by rfl) hB.sorted_ PyProof.Rows.boot_sorted (ma_cons (me_sl (me_op op_addM (me_var 2 (pv 2)) (me_var 2 (pv 2))) (mo_some (me_var 5 (pv 5))) (mo_some (me_op op_addM (me_var 5 (pv 5)) (me_var 1 (pv 1))))) ma_nil)))) mss_nil)
    (mss_cons (ms_if (mt_cmp (op_eqM hr.units) (me_var 4 (pv 4)) me_int (by first | exact nomark _ | rfl))
    (mss_one (ms_ret (me_sl (me_lst (ma_cons me_str (ma_cons me_str (ma_cons me_str (ma_cons me_str (ma_cons me_str (ma_cons me_str (ma_cons me_str (ma_cons me_str ma_nil))))))))) mo_none (mo_some (me_var 1 (pv 1)))))) mss_nil)
    (mss_cons (ms_setS (i := 3) sc_L_kinds.nd rfl (by first | exact Or.inl rfl | exact Or.inr rfl) (me_sl me_str mo_none (mo_some (me_call G_L_take hgu (hr.mono (by decide)) (by rfl) (ma_cons (me_var 0 (pv 0)) (ma_cons me_int ma_nil))))))
    (mss_one (ms_ret (me_cb (cr_sortedM hr.units) (by rfl) hB.sorted_ PyProof.Rows.boot_sorted (ma_cons (me_lc (by rfl) sc_L_kinds.nd (own := [("_law_k", 6)]) (mi_range (by rfl) hB.range_ (ma_cons (me_var 1 (pv 1)) ma_nil)) (blkOk_by (N := ["_law_bag_here", "_law_many", "_law_menu", "_law_stem", "_law_way", "_law_turn", "_law_k"]) (sc := defScope s_L_kinds) (by decide +kernel)) (by decide) (fun _ _ _ _ _ => (mg_name (i := 6) sc_L_kinds.nd rfl (by first | exact Or.inl rfl | exact Or.inr rfl))) (fun _ _ _ _ _ => mts_nil) (fun _ _ _ _ _ => (me_op op_addM (me_var 3 (pv 3)) (me_ix me_str (me_op op_modM (me_ct cr_intM (by rfl) hB.int_ PyProof.Rows.boot_int (ma_cons (me_op op_addM (me_op op_mulM me_int (me_var 5 (pv 5))) (me_op op_mulM me_int (me_var 6 (pv 6)))) ma_nil)) me_int))))) ma_nil)))))))))
abbrev s_L_number : Stmt := topS 25
theorem sc_L_number : FnScope ["_law_bag_here", "_law_way"] ["_law_bag_here"] (defScope s_L_number) := ⟨rfl, rfl, rfl, by decide +kernel, rfl, by decide +kernel, by decide +kernel⟩
theorem ok_L_number {fa : Addr} {fd : FuncData} (F : Fun K "_law_number" "_law_number" s_L_number fa fd) (hm : mg "_law_number" = some (.ref fa)) (bF : Binds K fd ["_law_bag_here"] [])  (G_L_take : FnM P w K mg base 1 "_law_take" 2 m_L_take)  : FnM P w K mg base 2 "_law_number" 1 m_L_number :=
  FnM.of F hm bF sc_L_number rfl fun cdv A out s H E hgu hr => show MSs (Cx.nox (cxOf CX0 P w K mg base ["_law_bag_here", "_law_way"] "_law_number" (defScope s_L_number) fa cdv A out s H E)) (defBody s_L_number) _ from
    (mss_cons (ms_setS (i := 1) sc_L_number.nd rfl (by first | exact Or.inl rfl | exact Or.inr rfl) (me_call G_L_take hgu (hr.mono (by decide)) (by rfl) (ma_cons (me_var 0 (pv 0)) (ma_cons me_int ma_nil))))
    (mss_cons (ms_if (mt_cmp (op_ltM hr.units) (me_var 1 (pv 1)) me_int (by first | exact nomark _ | rfl))
    (mss_one (ms_ret (me_op op_addM me_int (me_call G_L_take hgu (hr.mono (by decide)) (by rfl) (ma_cons (me_var 0 (pv 0)) (ma_cons (me_ix (me_lst (ma_cons me_int (ma_cons me_int (ma_cons me_int (ma_cons me_int (ma_cons me_int (ma_cons me_int ma_nil))))))) (me_var 1 (pv 1))) ma_nil)))))) mss_nil)
    (mss_one (ms_ret (me_op op_addM (me_ix (me_lst (ma_cons (me_op op_powM me_int me_int) (ma_cons (me_op op_powM me_int me_int) (ma_cons (me_op op_powM me_int me_int) (ma_cons (me_op op_powM me_int me_int) ma_nil))))) (me_call G_L_take hgu (hr.mono (by decide)) (by rfl) (ma_cons (me_var 0 (pv 0)) (ma_cons me_int ma_nil)))) (me_call G_L_take hgu (hr.mono (by decide)) (by rfl) (ma_cons (me_var 0 (pv 0)) (ma_cons me_int ma_nil))))))))
abbrev s_L_begin : Stmt := topS 26
theorem sc_L_begin : FnScope ["_law_step"] ["_law_step"] (defScope s_L_begin) := ⟨rfl, rfl, rfl, by decide +kernel, rfl, by decide +kernel, by decide +kernel⟩
theorem ok_L_begin {fa : Addr} {fd : FuncData} (F : Fun K "_law_begin" "_law_begin" s_L_begin fa fd) (hm : mg "_law_begin" = some (.ref fa)) (bF : Binds K fd ["_law_step"] [])    : FnM P w K mg base 1 "_law_begin" 1 m_L_begin :=
  FnM.of F hm bF sc_L_begin rfl fun cdv A out s H E hgu hr => show MSs (Cx.nox (cxOf CX0 P w K mg base ["_law_step"] "_law_begin" (defScope s_L_begin) fa cdv A out s H E)) (defBody s_L_begin) _ from
    (mss_one (ms_ret (me_if (mt_val (me_ix (me_var 0 (pv 0)) me_int)) (me_ix (me_ix (me_var 0 (pv 0)) me_int) me_int) (me_ix (me_ix (me_var 0 (pv 0)) me_int) me_int))))
abbrev s_L_end : Stmt := topS 27
theorem sc_L_end : FnScope ["_law_step"] ["_law_step"] (defScope s_L_end) := ⟨rfl, rfl, rfl, by decide +kernel, rfl, by decide +kernel, by decide +kernel⟩
theorem ok_L_end {fa : Addr} {fd : FuncData} (F : Fun K "_law_end" "_law_end" s_L_end fa fd) (hm : mg "_law_end" = some (.ref fa)) (bF : Binds K fd ["_law_step"] [])    : FnM P w K mg base 1 "_law_end" 1 m_L_end :=
  FnM.of F hm bF sc_L_end rfl fun cdv A out s H E hgu hr => show MSs (Cx.nox (cxOf CX0 P w K mg base ["_law_step"] "_law_end" (defScope s_L_end) fa cdv A out s H E)) (defBody s_L_end) _ from
    (mss_one (ms_ret (me_if (mt_val (me_ix (me_var 0 (pv 0)) me_int)) (me_ix (me_ix (me_var 0 (pv 0)) me_int) me_int) (me_ix (me_ix (me_var 0 (pv 0)) me_int) me_int))))
abbrev s_L_step_on : Stmt := topS 28
theorem sc_L_step_on : FnScope ["_law_bag_here", "_law_here", "_law_there"] ["_law_bag_here", "_law_here", "_law_there"] (defScope s_L_step_on) := ⟨rfl, rfl, rfl, by decide +kernel, rfl, by decide +kernel, by decide +kernel⟩
theorem ok_L_step_on {fa : Addr} {fd : FuncData} (F : Fun K "_law_step_on" "_law_step_on" s_L_step_on fa fd) (hm : mg "_law_step_on" = some (.ref fa)) (bF : Binds K fd ["_law_bag_here", "_law_here", "_law_there"] []) (hB : Bl mg) (G_L_take : FnM P w K mg base 1 "_law_take" 2 m_L_take)  : FnM P w K mg base 2 "_law_step_on" 3 m_L_step_on :=
  FnM.of F hm bF sc_L_step_on rfl fun cdv A out s H E hgu hr => show MSs (Cx.nox (cxOf CX0 P w K mg base ["_law_bag_here", "_law_here", "_law_there"] "_law_step_on" (defScope s_L_step_on) fa cdv A out s H E)) (defBody s_L_step_on) _ from
    (mss_cons (ms_if (mt_cmp (op_eqM hr.units) (me_call G_L_take hgu (hr.mono (by decide)) (by rfl) (ma_cons (me_var 0 (pv 0)) (ma_cons me_int ma_nil))) me_int (by first | exact nomark _ | rfl))
    (mss_one (ms_ret (me_tup (ma_cons (me_tup (ma_cons (me_var 1 (pv 1)) (ma_cons (me_var 2 (pv 2)) (ma_cons me_bl ma_nil)))) (ma_cons me_bl ma_nil))))) mss_nil)
    (mss_one (ms_ret (me_tup (ma_cons (me_tup (ma_cons (me_cb (cr_minM (by rfl) hr.units) (by rfl) hB.min_ PyProof.Rows.boot_min (ma_cons (me_var 1 (pv 1)) (ma_cons (me_var 2 (pv 2)) ma_nil))) (ma_cons (me_cb (cr_maxM (by rfl) hr.units) (by rfl) hB.max_ PyProof.Rows.boot_max (ma_cons (me_var 1 (pv 1)) (ma_cons (me_var 2 (pv 2)) ma_nil))) (ma_cons me_bl ma_nil)))) (ma_cons (me_cmp (op_ltM hr.units) (me_var 2 (pv 2)) (me_var 1 (pv 1)) (by first | exact nomark _ | rfl)) ma_nil))))))
abbrev s_L_row_from : Stmt := topS 29
theorem sc_L_row_from : FnScope ["_law_bag_here", "_law_kinds_here", "_law_here", "_law_upto", "_law_found", "_law_k", "_law_there"] ["_law_bag_here", "_law_kinds_here", "_law_here", "_law_upto"] (defScope s_L_row_from) := ⟨rfl, rfl, rfl, by decide +kernel, rfl, by decide +kernel, by decide +kernel⟩
theorem ok_L_row_from {fa : Addr} {fd : FuncData} (F : Fun K "_law_row_from" "_law_row_from" s_L_row_from fa fd) (hm : mg "_law_row_from" = some (.ref fa)) (bF : Binds K fd ["_law_bag_here", "_law_kinds_here", "_law_here", "_law_upto"] []) (hB : Bl mg) (G_L_take : FnM P w K mg base 1 "_law_take" 2 m_L_take) (G_L_one : FnM P w K mg base 2 "_law_one" 2 m_L_one) (G_L_step_on : FnM P w K mg base 2 "_law_step_on" 3 m_L_step_on)  : FnM P w K mg base 3 "_law_row_from" 4 m_L_row_from :=
  FnM.of F hm bF sc_L_row_from rfl fun cdv A out s H E hgu hr => show MSs (Cx.nox (cxOf CX0 P w K mg base ["_law_bag_here", "_law_kinds_here", "_law_here", "_law_upto", "_law_found", "_law_k", "_law_there"] "_law_row_from" (defScope s_L_row_from) fa cdv A out s H E)) (defBody s_L_row_from) _ from
    (mss_cons (ms_set (i := 4) sc_L_row_from.nd rfl (by first | exact Or.inl rfl | exact Or.inr rfl) (me_lst ma_nil))
    (mss_cons (ms_for PassesOwn.never (by rfl) (mi_range (by rfl) hB.range_ (ma_cons (me_op op_addM me_int (me_call G_L_take hgu (hr.mono (by decide)) (by rfl) (ma_cons (me_var 0 (pv 0)) (ma_cons (me_var 3 (pv 3)) ma_nil)))) ma_nil)) (mg_name (i := 5) sc_L_row_from.nd rfl (by first | exact Or.inl rfl | exact Or.inr rfl))
    (mss_cons (ms_setS (i := 6) sc_L_row_from.nd rfl (by first | exact Or.inl rfl | exact Or.inr rfl) (me_call G_L_one hgu (hr.mono (by decide)) (by rfl) (ma_cons (me_var 0 (pv 0)) (ma_cons (me_var 1 (pv 1)) ma_nil))))
    (mss_cons (ms_app (i := 4) (pv 4) (me_call G_L_step_on hgu (hr.mono (by decide)) (by rfl) (ma_cons (me_var 0 (pv 0)) (ma_cons (me_var 2 (pv 2)) (ma_cons (me_var 6 (pv 6)) ma_nil)))))
    (mss_one (ms_setS (i := 2) sc_L_row_from.nd rfl (by first | exact Or.inl rfl | exact Or.inr rfl) (me_var 6 (pv 6)))))))
    (mss_one (ms_retO (i := 4) (pv 4)))))
abbrev s_L_round : Stmt := topS 30
theorem sc_L_round : FnScope ["_law_bag_here", "_law_kinds_here", "_law_here", "_law_upto", "_law_found"] ["_law_bag_here", "_law_kinds_here", "_law_here", "_law_upto"] (defScope s_L_round) := ⟨rfl, rfl, rfl, by decide +kernel, rfl, by decide +kernel, by decide +kernel⟩
theorem ok_L_round {fa : Addr} {fd : FuncData} (F : Fun K "_law_round" "_law_round" s_L_round fa fd) (hm : mg "_law_round" = some (.ref fa)) (bF : Binds K fd ["_law_bag_here", "_law_kinds_here", "_law_here", "_law_upto"] [])  (G_L_row_from : FnM P w K mg base 3 "_law_row_from" 4 m_L_row_from) (G_L_end : FnM P w K mg base 1 "_law_end" 1 m_L_end) (G_L_step_on : FnM P w K mg base 2 "_law_step_on" 3 m_L_step_on)  : FnM P w K mg base 4 "_law_round" 4 m_L_round :=
  FnM.of F hm bF sc_L_round rfl fun cdv A out s H E hgu hr => show MSs (Cx.nox (cxOf CX0 P w K mg base ["_law_bag_here", "_law_kinds_here", "_law_here", "_law_upto", "_law_found"] "_law_round" (defScope s_L_round) fa cdv A out s H E)) (defBody s_L_round) _ from
    (mss_cons (ms_set (i := 4) sc_L_round.nd rfl (by first | exact Or.inl rfl | exact Or.inr rfl) (me_call G_L_row_from hgu (hr.mono (by decide)) (by rfl) (ma_cons (me_var 0 (pv 0)) (ma_cons (me_var 1 (pv 1)) (ma_cons (me_var 2 (pv 2)) (ma_cons (me_var 3 (pv 3)) ma_nil))))))
    (mss_cons (ms_if (mt_cmp (op_neM hr.units) (me_call G_L_end hgu (hr.mono (by decide)) (by rfl) (ma_cons (me_ixV (pv 4) (me_un un_negM me_int)) ma_nil)) (me_var 2 (pv 2)) (by first | exact nomark _ | rfl))
    (mss_one (ms_app (i := 4) (pv 4) (me_call G_L_step_on hgu (hr.mono (by decide)) (by rfl) (ma_cons (me_var 0 (pv 0)) (ma_cons (me_call G_L_end hgu (hr.mono (by decide)) (by rfl) (ma_cons (me_ixV (pv 4) (me_un un_negM me_int)) ma_nil)) (ma_cons (me_var 2 (pv 2)) ma_nil)))))) mss_nil)
    (mss_one (ms_retO (i := 4) (pv 4)))))
abbrev s_L_train : Stmt := topS 31
theorem sc_L_train : FnScope ["_law_bag_here", "_law_kinds_here", "_law_upto", "_law_k", "_law_here", "_law_found"] ["_law_bag_here", "_law_kinds_here", "_law_upto"] (defScope s_L_train) := ⟨rfl, rfl, rfl, by decide +kernel, rfl, by decide +kernel, by decide +kernel⟩
theorem ok_L_train {fa : Addr} {fd : FuncData} (F : Fun K "_law_train" "_law_train" s_L_train fa fd) (hm : mg "_law_train" = some (.ref fa)) (bF : Binds K fd ["_law_bag_here", "_law_kinds_here", "_law_upto"] []) (hB : Bl mg) (G_L_one : FnM P w K mg base 2 "_law_one" 2 m_L_one) (G_L_take : FnM P w K mg base 1 "_law_take" 2 m_L_take) (G_L_number : FnM P w K mg base 2 "_law_number" 1 m_L_number) (G_L_round : FnM P w K mg base 4 "_law_round" 4 m_L_round) (G_L_row_from : FnM P w K mg base 3 "_law_row_from" 4 m_L_row_from) (G_L_end : FnM P w K mg base 1 "_law_end" 1 m_L_end)  : FnM P w K mg base 5 "_law_train" 3 m_L_train :=
  FnM.of F hm bF sc_L_train rfl fun cdv A out s H E hgu hr => show MSs (Cx.nox (cxOf CX0 P w K mg base ["_law_bag_here", "_law_kinds_here", "_law_upto", "_law_k", "_law_here", "_law_found"] "_law_train" (defScope s_L_train) fa cdv A out s H E)) (defBody s_L_train) _ from
    (mss_cons (ms_frzA [4] (ms_par2 (i := 4) (j := 5) (by rfl) sc_L_train.nd rfl rfl (by decide) (by rfl) (by rfl) (me_call G_L_one hgu (hr.mono (by decide)) (by rfl) (ma_cons (me_var 0 (pv 0)) (ma_cons (me_var 1 (pv 1)) ma_nil))) (me_lst ma_nil) (by rfl)))
    (mss_cons (ms_for PassesOwn.never (by rfl) (mi_range (by rfl) hB.range_ (ma_cons (me_op op_addM me_int (me_call G_L_take hgu (hr.mono (by decide)) (by rfl) (ma_cons (me_var 0 (pv 0)) (ma_cons (me_var 2 (pv 2)) ma_nil)))) ma_nil)) (mg_name (i := 3) sc_L_train.nd rfl (by first | exact Or.inl rfl | exact Or.inr rfl))
    (mss_one (ms_if (mt_cmp (op_eqM hr.units) (me_call G_L_take hgu (hr.mono (by decide)) (by rfl) (ma_cons (me_var 0 (pv 0)) (ma_cons me_int ma_nil))) me_int (by first | exact nomark _ | rfl))
    (mss_one (ms_app (i := 5) (pv 5) (me_tup (ma_cons (me_call G_L_number hgu (hr.mono (by decide)) (by rfl) (ma_cons (me_var 0 (pv 0)) ma_nil)) (ma_cons (me_call G_L_round hgu (hr.mono (by decide)) (by rfl) (ma_cons (me_var 0 (pv 0)) (ma_cons (me_var 1 (pv 1)) (ma_cons (me_var 4 (pv 4)) (ma_cons me_int ma_nil))))) ma_nil))))) (mss_cons (ms_app (i := 5) (pv 5) (me_tup (ma_cons me_int (ma_cons (me_call G_L_row_from hgu (hr.mono (by decide)) (by rfl) (ma_cons (me_var 0 (pv 0)) (ma_cons (me_var 1 (pv 1)) (ma_cons (me_var 4 (pv 4)) (ma_cons me_int ma_nil))))) ma_nil))))
    (mss_one (ms_setS (i := 4) sc_L_train.nd rfl (by first | exact Or.inl rfl | exact Or.inr rfl) (me_call G_L_end hgu (hr.mono (by decide)) (by rfl) (ma_cons (me_ix (me_ix (me_ixV (pv 5) (me_un un_negM me_int)) me_int) (me_un un_negM me_int)) ma_nil))))))))
    (mss_one (ms_retO (i := 5) (pv 5)))))
abbrev s_L_is_int : Stmt := topS 32
theorem sc_L_is_int : FnScope ["_law_thing"] ["_law_thing"] (defScope s_L_is_int) := ⟨rfl, rfl, rfl, by decide +kernel, rfl, by decide +kernel, by decide +kernel⟩
theorem ok_L_is_int {fa : Addr} {fd : FuncData} (F : Fun K "_law_is_int" "_law_is_int" s_L_is_int fa fd) (hm : mg "_law_is_int" = some (.ref fa)) (bF : Binds K fd ["_law_thing"] []) (hB : Bl mg)   : FnM P w K mg base 1 "_law_is_int" 1 m_L_is_int :=
  FnM.of F hm bF sc_L_is_int rfl fun cdv A out s H E hgu hr => show MSs (Cx.nox (cxOf CX0 P w K mg base ["_law_thing"] "_law_is_int" (defScope s_L_is_int) fa cdv A out s H E)) (defBody s_L_is_int) _ from
    (mss_one (ms_ret (me_and (me_isi (T := "int") (by rfl) hB.isinstance_ (me_var 0 (pv 0)) (by rfl) hB.int_ PyProof.Rows.boot_int) (me_one (me_not (me_isi (T := "bool") (by rfl) hB.isinstance_ (me_var 0 (pv 0)) (by rfl) hB.bool_ PyProof.Rows.boot_bool))))))
abbrev s_L_is_kind : Stmt := topS 33
theorem sc_L_is_kind : FnScope ["_law_thing", "_law_letter"] ["_law_thing"] (defScope s_L_is_kind) := ⟨rfl, rfl, rfl, by decide +kernel, rfl, by decide +kernel, by decide +kernel⟩
theorem ok_L_is_kind {fa : Addr} {fd : FuncData} (F : Fun K "_law_is_kind" "_law_is_kind" s_L_is_kind fa fd) (hm : mg "_law_is_kind" = some (.ref fa)) (bF : Binds K fd ["_law_thing"] []) (hB : Bl mg)   : FnM P w K mg base 1 "_law_is_kind" 1 m_L_is_kind :=
  FnM.of F hm bF sc_L_is_kind rfl fun cdv A out s H E hgu hr => show MSs (Cx.nox (cxOf CX0 P w K mg base ["_law_thing", "_law_letter"] "_law_is_kind" (defScope s_L_is_kind) fa cdv A out s H E)) (defBody s_L_is_kind) _ from
    (mss_cons (ms_if (mt_w (mw_or (mt_not (mt_val (me_isi (T := "str") (by rfl) hB.isinstance_ (me_var 0 (pv 0)) (by rfl) hB.str_ PyProof.Rows.boot_str))) (mw_or1 (mt_not (mt_chain (op_ltM hr.units) (op_ltM hr.units) me_int (me_cb cr_lenM (by rfl) hB.len_ PySem.boot_len (ma_cons (me_var 0 (pv 0)) ma_nil)) me_int)))))
    (mss_one (ms_ret me_bl)) mss_nil)
    (mss_one (ms_ret (me_cmp (op_eqN hr.units) (me_lc (by rfl) sc_L_is_kind.nd (own := [("_law_letter", 1)]) (mi_val (me_var 0 (pv 0))) (blkOk_by (N := ["_law_thing", "_law_letter"]) (sc := defScope s_L_is_kind) (by decide +kernel)) (by decide) (fun _ _ _ _ _ => (mg_name (i := 1) sc_L_is_kind.nd rfl (by first | exact Or.inl rfl | exact Or.inr rfl))) (fun _ _ _ _ _ => (mts_one (mt_cmp (op_notInM hr.units) (me_var 1 (pv 1)) me_str (by first | exact nomark _ | rfl)))) (fun _ _ _ _ _ => (me_var 1 (pv 1)))) (me_lst ma_nil) (by first | exact nomark _ | rfl)))))
abbrev s_L_is_cart : Stmt := topS 34
theorem sc_L_is_cart : FnScope ["_law_thing"] ["_law_thing"] (defScope s_L_is_cart) := ⟨rfl, rfl, rfl, by decide +kernel, rfl, by decide +kernel, by decide +kernel⟩
theorem ok_L_is_cart {fa : Addr} {fd : FuncData} (F : Fun K "_law_is_cart" "_law_is_cart" s_L_is_cart fa fd) (hm : mg "_law_is_cart" = some (.ref fa)) (bF : Binds K fd ["_law_thing"] []) (hB : Bl mg) (G_L_is_kind : FnM P w K mg base 1 "_law_is_kind" 1 m_L_is_kind)  : FnM P w K mg base 2 "_law_is_cart" 1 m_L_is_cart :=
  FnM.of F hm bF sc_L_is_cart rfl fun cdv A out s H E hgu hr => show MSs (Cx.nox (cxOf CX0 P w K mg base ["_law_thing"] "_law_is_cart" (defScope s_L_is_cart) fa cdv A out s H E)) (defBody s_L_is_cart) _ from
    (mss_cons (ms_if (mt_w (mw_or (mt_not (mt_val (me_isi (T := "tuple") (by rfl) hB.isinstance_ (me_var 0 (pv 0)) (by rfl) hB.tuple_ PyProof.Rows.boot_tuple))) (mw_or (mt_cmp (op_neM hr.units) (me_cb cr_lenM (by rfl) hB.len_ PySem.boot_len (ma_cons (me_var 0 (pv 0)) ma_nil)) me_int (by first | exact nomark _ | rfl)) (mw_or1 (mt_not (mt_val (me_isi (T := "bool") (by rfl) hB.isinstance_ (me_ix (me_var 0 (pv 0)) me_int) (by rfl) hB.bool_ PyProof.Rows.boot_bool)))))))
    (mss_one (ms_ret me_bl)) mss_nil)
    (mss_one (ms_ret (me_and (me_call G_L_is_kind hgu (hr.mono (by decide)) (by rfl) (ma_cons (me_ix (me_var 0 (pv 0)) me_int) ma_nil)) (me_and (me_call G_L_is_kind hgu (hr.mono (by decide)) (by rfl) (ma_cons (me_ix (me_var 0 (pv 0)) me_int) ma_nil)) (me_one (me_or (me_not (me_ix (me_var 0 (pv 0)) me_int)) (me_one (me_cmp (op_leM hr.units) (me_ix (me_var 0 (pv 0)) me_int) (me_ix (me_var 0 (pv 0)) me_int) (by first | exact nomark _ | rfl))))))))))
abbrev s_L_is_step : Stmt := topS 35
theorem sc_L_is_step : FnScope ["_law_thing"] ["_law_thing"] (defScope s_L_is_step) := ⟨rfl, rfl, rfl, by decide +kernel, rfl, by decide +kernel, by decide +kernel⟩
theorem ok_L_is_step {fa : Addr} {fd : FuncData} (F : Fun K "_law_is_step" "_law_is_step" s_L_is_step fa fd) (hm : mg "_law_is_step" = some (.ref fa)) (bF : Binds K fd ["_law_thing"] []) (hB : Bl mg) (G_L_is_cart : FnM P w K mg base 2 "_law_is_cart" 1 m_L_is_cart)  : FnM P w K mg base 3 "_law_is_step" 1 m_L_is_step :=
  FnM.of F hm bF sc_L_is_step rfl fun cdv A out s H E hgu hr => show MSs (Cx.nox (cxOf CX0 P w K mg base ["_law_thing"] "_law_is_step" (defScope s_L_is_step) fa cdv A out s H E)) (defBody s_L_is_step) _ from
    (mss_cons (ms_if (mt_w (mw_or (mt_not (mt_val (me_isi (T := "tuple") (by rfl) hB.isinstance_ (me_var 0 (pv 0)) (by rfl) hB.tuple_ PyProof.Rows.boot_tuple))) (mw_or (mt_cmp (op_neM hr.units) (me_cb cr_lenM (by rfl) hB.len_ PySem.boot_len (ma_cons (me_var 0 (pv 0)) ma_nil)) me_int (by first | exact nomark _ | rfl)) (mw_or1 (mt_not (mt_val (me_call G_L_is_cart hgu (hr.mono (by decide)) (by rfl) (ma_cons (me_ix (me_var 0 (pv 0)) me_int) ma_nil))))))))
    (mss_one (ms_ret me_bl)) mss_nil)
    (mss_one (ms_ret (me_and (me_isi (T := "bool") (by rfl) hB.isinstance_ (me_ix (me_var 0 (pv 0)) me_int) (by rfl) hB.bool_ PyProof.Rows.boot_bool) (me_one (me_or (me_not (me_ix (me_var 0 (pv 0)) me_int)) (me_one (me_and (me_ix (me_ix (me_var 0 (pv 0)) me_int) me_int) (me_one (me_cmp (op_neM hr.units) (me_ix (me_ix (me_var 0 (pv 0)) me_int) me_int) (me_ix (me_ix (me_var 0 (pv 0)) me_int) me_int) (by first | exact nomark _ | rfl)))))))))))
abbrev s_L_is_row : Stmt := topS 36
theorem sc_L_is_row : FnScope ["_law_thing", "_law_k", "_law_step"] ["_law_thing"] (defScope s_L_is_row) := ⟨rfl, rfl, rfl, by decide +kernel, rfl, by decide +kernel, by decide +kernel⟩
theorem ok_L_is_row {fa : Addr} {fd : FuncData} (F : Fun K "_law_is_row" "_law_is_row" s_L_is_row fa fd) (hm : mg "_law_is_row" = some (.ref fa)) (bF : Binds K fd ["_law_thing"] []) (hB : Bl mg) (G_L_is_step : FnM P w K mg base 3 "_law_is_step" 1 m_L_is_step) (G_L_end : FnM P w K mg base 1 "_law_end" 1 m_L_end) (G_L_begin : FnM P w K mg base 1 "_law_begin" 1 m_L_begin)  : FnM P w K mg base 4 "_law_is_row" 1 m_L_is_row :=
  FnM.of F hm bF sc_L_is_row rfl fun cdv A out s H E hgu hr => show MSs (Cx.nox (cxOf CX0 P w K mg base ["_law_thing", "_law_k", "_law_step"] "_law_is_row" (defScope s_L_is_row) fa cdv A out s H E)) (defBody s_L_is_row) _ from
    (mss_cons (ms_if (mt_w (mw_or (mt_not (mt_val (me_isi (T := "list") (by rfl) hB.isinstance_ (me_var 0 (pv 0)) (by rfl) hB.list_ PyProof.Rows.boot_list))) (mw_or (mt_cmp (op_eqN hr.units) (me_var 0 (pv 0)) (me_lst ma_nil) (by first | exact nomark _ | rfl)) (mw_or1 (mt_cmp (op_neN hr.units) (me_lc (by rfl) sc_L_is_row.nd (own := [("_law_step", 2)]) (mi_val (me_var 0 (pv 0))) (blkOk_by (N := ["_law_thing", "_law_k", "_law_step"]) (sc := defScope s_L_is_row) (by decide +kernel)) (by decide) (fun _ _ _ _ _ => (mg_name (i := 2) sc_L_is_row.nd rfl (by first | exact Or.inl rfl | exact Or.inr rfl))) (fun _ _ _ _ _ => (mts_one (mt_not (mt_val (me_call G_L_is_step hgu (hr.mono (by decide)) (by rfl) (ma_cons (me_var 2 (pv 2)) ma_nil)))))) (fun _ _ _ _ _ => (me_var 2 (pv 2)))) (me_lst ma_nil) (by first | exact nomark _ | rfl))))))
    (mss_one (ms_ret me_bl)) mss_nil)
    (mss_one (ms_ret (me_cmp (op_eqN hr.units) (me_lc (by rfl) sc_L_is_row.nd (own := [("_law_k", 1)]) (mi_range2 (by rfl) hB.range_ (ma_cons me_int (ma_cons (me_cb cr_lenM (by rfl) hB.len_ PySem.boot_len (ma_cons (me_var 0 (pv 0)) ma_nil)) ma_nil))) (blkOk_by (N := ["_law_thing", "_law_k", "_law_step"]) (sc := defScope s_L_is_row) (by decide +kernel)) (by decide) (fun _ _ _ _ _ => (mg_name (i := 1) sc_L_is_row.nd rfl (by first | exact Or.inl rfl | exact Or.inr rfl))) (fun _ _ _ _ _ => (mts_one (mt_cmp (op_neM hr.units) (me_call G_L_end hgu (hr.mono (by decide)) (by rfl) (ma_cons (me_ix (me_var 0 (pv 0)) (me_op op_subM (me_var 1 (pv 1)) me_int)) ma_nil)) (me_call G_L_begin hgu (hr.mono (by decide)) (by rfl) (ma_cons (me_ix (me_var 0 (pv 0)) (me_var 1 (pv 1))) ma_nil)) (by first | exact nomark _ | rfl)))) (fun _ _ _ _ _ => (me_var 1 (pv 1)))) (me_lst ma_nil) (by first | exact nomark _ | rfl)))))
abbrev s_L_is_part : Stmt := topS 37
theorem sc_L_is_part : FnScope ["_law_thing"] ["_law_thing"] (defScope s_L_is_part) := ⟨rfl, rfl, rfl, by decide +kernel, rfl, by decide +kernel, by decide +kernel⟩
theorem ok_L_is_part {fa : Addr} {fd : FuncData} (F : Fun K "_law_is_part" "_law_is_part" s_L_is_part fa fd) (hm : mg "_law_is_part" = some (.ref fa)) (bF : Binds K fd ["_law_thing"] []) (hB : Bl mg) (G_L_is_int : FnM P w K mg base 1 "_law_is_int" 1 m_L_is_int) (G_L_is_row : FnM P w K mg base 4 "_law_is_row" 1 m_L_is_row) (G_L_begin : FnM P w K mg base 1 "_law_begin" 1 m_L_begin) (G_L_end : FnM P w K mg base 1 "_law_end" 1 m_L_end)  : FnM P w K mg base 5 "_law_is_part" 1 m_L_is_part :=
  FnM.of F hm bF sc_L_is_part rfl fun cdv A out s H E hgu hr => show MSs (Cx.nox (cxOf CX0 P w K mg base ["_law_thing"] "_law_is_part" (defScope s_L_is_part) fa cdv A out s H E)) (defBody s_L_is_part) _ from
    (mss_cons (ms_if (mt_w (mw_or (mt_not (mt_val (me_isi (T := "tuple") (by rfl) hB.isinstance_ (me_var 0 (pv 0)) (by rfl) hB.tuple_ PyProof.Rows.boot_tuple))) (mw_or (mt_cmp (op_neM hr.units) (me_cb cr_lenM (by rfl) hB.len_ PySem.boot_len (ma_cons (me_var 0 (pv 0)) ma_nil)) me_int (by first | exact nomark _ | rfl)) (mw_or (mt_not (mt_val (me_call G_L_is_int hgu (hr.mono (by decide)) (by rfl) (ma_cons (me_ix (me_var 0 (pv 0)) me_int) ma_nil)))) (mw_or1 (mt_cmp (op_ltM hr.units) (me_ix (me_var 0 (pv 0)) me_int) me_int (by first | exact nomark _ | rfl)))))))
    (mss_one (ms_ret me_bl)) mss_nil)
    (mss_one (ms_ret (me_and (me_call G_L_is_row hgu (hr.mono (by decide)) (by rfl) (ma_cons (me_ix (me_var 0 (pv 0)) me_int) ma_nil)) (me_one (me_or (me_cmp (op_eqM hr.units) (me_ix (me_var 0 (pv 0)) me_int) me_int (by first | exact nomark _ | rfl)) (me_one (me_cmp (op_eqM hr.units) (me_call G_L_begin hgu (hr.mono (by decide)) (by rfl) (ma_cons (me_ix (me_ix (me_var 0 (pv 0)) me_int) me_int) ma_nil)) (me_call G_L_end hgu (hr.mono (by decide)) (by rfl) (ma_cons (me_ix (me_ix (me_var 0 (pv 0)) me_int) (me_un un_negM me_int)) ma_nil)) (by first | exact nomark _ | rfl)))))))))
abbrev s_L_is_train : Stmt := topS 38
theorem sc_L_is_train : FnScope ["_law_thing", "_law_borders", "_law_many", "_law_row", "_law_k", "_law_part"] ["_law_thing"] (defScope s_L_is_train) := ⟨rfl, rfl, rfl, by decide +kernel, rfl, by decide +kernel, by decide +kernel⟩
theorem ok_L_is_train {fa : Addr} {fd : FuncData} (F : Fun K "_law_is_train" "_law_is_train" s_L_is_train fa fd) (hm : mg "_law_is_train" = some (.ref fa)) (bF : Binds K fd ["_law_thing"] []) (hB : Bl mg) (G_L_is_part : FnM P w K mg base 5 "_law_is_part" 1 m_L_is_part) (G_L_begin : FnM P w K mg base 1 "_law_begin" 1 m_L_begin) (G_L_end : FnM P w K mg base 1 "_law_end" 1 m_L_end)  : FnM P w K mg base 6 "_law_is_train" 1 m_L_is_train :=
  FnM.of F hm bF sc_L_is_train rfl fun cdv A out s H E hgu hr => show MSs (Cx.nox (cxOf CX0 P w K mg base ["_law_thing", "_law_borders", "_law_many", "_law_row", "_law_k", "_law_part"] "_law_is_train" (defScope s_L_is_train) fa cdv A out s H E)) (defBody s_L_is_train) _ from
    (mss_cons (ms_if (mt_w (mw_or (mt_not (mt_val (me_isi (T := "list") (by rfl) hB.isinstance_ (me_var 0 (pv 0)) (by rfl) hB.list_ PyProof.Rows.boot_list))) (mw_or (mt_cmp (op_eqN hr.units) (me_var 0 (pv 0)) (me_lst ma_nil) (by first | exact nomark _ | rfl)) (mw_or1 (mt_cmp (op_neN hr.units) (me_lc (by rfl) sc_L_is_train.nd (own := [("_law_part", 5)]) (mi_val (me_var 0 (pv 0))) (blkOk_by (N := ["_law_thing", "_law_borders", "_law_many", "_law_row", "_law_k", "_law_part"]) (sc := defScope s_L_is_train) (by decide +kernel)) (by decide) (fun _ _ _ _ _ => (mg_name (i := 5) sc_L_is_train.nd rfl (by first | exact Or.inl rfl | exact Or.inr rfl))) (fun _ _ _ _ _ => (mts_one (mt_not (mt_val (me_call G_L_is_part hgu (hr.mono (by decide)) (by rfl) (ma_cons (me_var 5 (pv 5)) ma_nil)))))) (fun _ _ _ _ _ => (me_var 5 (pv 5)))) (me_lst ma_nil) (by first | exact nomark _ | rfl))))))
    (mss_one (ms_ret me_bl)) mss_nil)
    (mss_cons (ms_setS (i := 1) sc_L_is_train.nd rfl (by first | exact Or.inl rfl | exact Or.inr rfl) (me_lc (by rfl) sc_L_is_train.nd (own := [("_law_many", 2), ("_law_row", 3)]) (mi_val (me_var 0 (pv 0))) (blkOk_by (N := ["_law_thing", "_law_borders", "_law_many", "_law_row", "_law_k", "_law_part"]) (sc := defScope s_L_is_train) (by decide +kernel)) (by decide) (fun _ _ _ _ _ => (mg_tup (by rfl) (mgs_cons (mg_name (i := 2) sc_L_is_train.nd rfl (by first | exact Or.inl rfl | exact Or.inr rfl)) (mgs_cons (mg_name (i := 3) sc_L_is_train.nd rfl (by first | exact Or.inl rfl | exact Or.inr rfl)) mgs_nil)))) (fun _ _ _ _ _ => mts_nil) (fun _ _ _ _ _ => (me_tup (ma_cons (me_call G_L_begin hgu (hr.mono (by decide)) (by rfl) (ma_cons (me_ix (me_var 3 (pv 3)) me_int) ma_nil)) (ma_cons (me_call G_L_end hgu (hr.mono (by decide)) (by rfl) (ma_cons (me_ix (me_var 3 (pv 3)) (me_un un_negM me_int)) ma_nil)) ma_nil))))))
    (mss_one (ms_ret (me_cmp (op_eqN hr.units) (me_lc (by rfl) sc_L_is_train.nd (own := [("_law_k", 4)]) (mi_range2 (by rfl) hB.range_ (ma_cons me_int (ma_cons (me_cb cr_lenM (by rfl) hB.len_ PySem.boot_len (ma_cons (me_var 1 (pv 1)) ma_nil)) ma_nil))) (blkOk_by (N := ["_law_thing", "_law_borders", "_law_many", "_law_row", "_law_k", "_law_part"]) (sc := defScope s_L_is_train) (by decide +kernel)) (by decide) (fun _ _ _ _ _ => (mg_name (i := 4) sc_L_is_train.nd rfl (by first | exact Or.inl rfl | exact Or.inr rfl))) (fun _ _ _ _ _ => (mts_one (mt_cmp (op_neM hr.units) (me_ix (me_ix (me_var 1 (pv 1)) (me_op op_subM (me_var 4 (pv 4)) me_int)) me_int) (me_ix (me_ix (me_var 1 (pv 1)) (me_var 4 (pv 4))) me_int) (by first | exact nomark _ | rfl)))) (fun _ _ _ _ _ => (me_var 4 (pv 4)))) (me_lst ma_nil) (by first | exact nomark _ | rfl))))))
abbrev s_L_odd_value : Stmt := topS 39
theorem sc_L_odd_value : FnScope ["_law_bag_here", "_law_deep", "_law_k", "_law_some"] ["_law_bag_here"] (defScope s_L_odd_value) := ⟨rfl, rfl, rfl, by decide +kernel, rfl, by decide +kernel, by decide +kernel⟩
theorem ok_L_odd_value {fa : Addr} {fd : FuncData} (F : Fun K "_law_odd_value" "_law_odd_value" s_L_odd_value fa fd) (hm : mg "_law_odd_value" = some (.ref fa)) (bF : Binds K fd ["_law_bag_here"] []) (hB : Bl mg) (G_L_one : FnM P w K mg base 2 "_law_one" 2 m_L_one)  : FnM P w K mg base 3 "_law_odd_value" 1 m_L_odd_value :=
  FnM.of F hm bF sc_L_odd_value rfl fun cdv A out s H E hgu hr => show MSs (Cx.nox (cxOf CX0 P w K mg base ["_law_bag_here", "_law_deep", "_law_k", "_law_some"] "_law_odd_value" (defScope s_L_odd_value) fa cdv A out s H E)) (defBody s_L_odd_value) _ from
    (mss_cons (ms_setS (i := 1) sc_L_odd_value.nd rfl (by first | exact Or.inl rfl | exact Or.inr rfl) (me_lst ma_nil))
    (mss_cons (ms_for PassesOwn.never (by rfl) (mi_range (by rfl) hB.range_ (ma_cons me_int ma_nil)) (mg_name (i := 2) sc_L_odd_value.nd rfl (by first | exact Or.inl rfl | exact Or.inr rfl))
    (mss_one (ms_setS (i := 1) sc_L_odd_value.nd rfl (by first | exact Or.inl rfl | exact Or.inr rfl) (me_lst (ma_cons (me_var 1 (pv 1)) ma_nil)))))
    (mss_cons (ms_setS (i := 3) sc_L_odd_value.nd rfl (by first | exact Or.inl rfl | exact Or.inr rfl) (me_lst (ma_cons me_non (ma_cons me_bl (ma_cons me_bl (ma_cons me_int (ma_cons me_int (ma_cons (me_un un_negM me_int) (ma_cons me_int (ma_cons (me_op op_powM me_int me_int) (ma_cons me_str (ma_cons me_str (ma_cons me_str (ma_cons me_str (ma_cons me_str (ma_cons me_str (ma_cons me_str (ma_cons (me_tup ma_nil) (ma_cons (me_lst ma_nil) (ma_cons me_dict0 ma_nil))))))))))))))))))))
    (mss_cons (ms_setS (i := 3) sc_L_odd_value.nd rfl (by first | exact Or.inl rfl | exact Or.inr rfl) (me_op op_addM (me_var 3 (pv 3)) (me_lst (ma_cons (me_tup (ma_cons me_str (ma_cons me_str (ma_cons me_bl ma_nil)))) (ma_cons (me_tup (ma_cons me_str (ma_cons me_str (ma_cons me_bl ma_nil)))) (ma_cons (me_tup (ma_cons me_str (ma_cons me_str (ma_cons me_int ma_nil)))) (ma_cons (me_tup (ma_cons me_str (ma_cons me_str (ma_cons me_bl ma_nil)))) (ma_cons (me_tup (ma_cons (me_tup (ma_cons me_str (ma_cons me_str (ma_cons me_bl ma_nil)))) (ma_cons me_bl ma_nil))) ma_nil))))))))
    (mss_cons (ms_setS (i := 3) sc_L_odd_value.nd rfl (by first | exact Or.inl rfl | exact Or.inr rfl) (me_op op_addM (me_var 3 (pv 3)) (me_lst (ma_cons (me_tup (ma_cons (me_tup (ma_cons me_str (ma_cons me_str (ma_cons me_bl ma_nil)))) (ma_cons me_bl ma_nil))) (ma_cons (me_tup (ma_cons (me_tup (ma_cons me_str (ma_cons me_str (ma_cons me_bl ma_nil)))) (ma_cons me_bl ma_nil))) (ma_cons (me_lst (ma_cons me_str (ma_cons me_str (ma_cons me_bl ma_nil)))) (ma_cons (me_op op_mulM (me_lst (ma_cons me_non ma_nil)) me_int) (ma_cons (me_var 1 (pv 1)) ma_nil))))))))
    (mss_one (ms_ret (me_call G_L_one hgu (hr.mono (by decide)) (by rfl) (ma_cons (me_var 0 (pv 0)) (ma_cons (me_var 3 (pv 3)) ma_nil))))))))))
abbrev s_L_bent : Stmt := topS 40
theorem sc_L_bent : FnScope ["_law_bag_here", "_law_thing", "_law_way", "_law_found", "_law_at"] ["_law_bag_here", "_law_thing"] (defScope s_L_bent) := ⟨rfl, rfl, rfl, by decide +kernel, rfl, by decide +kernel, by decide +kernel⟩
theorem ok_L_bent {fa : Addr} {fd : FuncData} (F : Fun K "_law_bent" "_law_bent" s_L_bent fa fd) (hm : mg "_law_bent" = some (.ref fa)) (bF : Binds K fd ["_law_bag_here", "_law_thing"] []) (hB : Bl mg) (G_L_take : FnM P w K mg base 1 "_law_take" 2 m_L_take) (G_L_odd_value : FnM P w K mg base 3 "_law_odd_value" 1 m_L_odd_value) {k : Nat} {self : FM} (hk : 3 ≤ k) (G_self : FnM P w K mg base k "_law_bent" 2 self) : FnM P w K mg base (k + 1) "_law_bent" 2 (m_L_bent self) :=
  FnM.of F hm bF sc_L_bent rfl fun cdv A out s H E hgu hr => show MSs (Cx.nox (cxOf CX0 P w K mg base ["_law_bag_here", "_law_thing", "_law_way", "_law_found", "_law_at"] "_law_bent" (defScope s_L_bent) fa cdv A out s H E)) (defBody s_L_bent) _ from
    (mss_cons (ms_setS (i := 2) sc_L_bent.nd rfl (by first | exact Or.inl rfl | exact Or.inr rfl) (me_call G_L_take hgu (hr.mono (Nat.le_trans (by decide) hk)) (by rfl) (ma_cons (me_var 0 (pv 0)) (ma_cons me_int ma_nil))))
    (mss_cons (ms_if (mt_w (mw_or (mt_cmp (op_eqM hr.units) (me_var 2 (pv 2)) me_int (by first | exact nomark _ | rfl)) (mw_or (mt_not (mt_val (me_isiLT (by rfl) hB.isinstance_ (me_var 1 (pv 1)) (by rfl) hB.list_ (by rfl) hB.tuple_))) (mw_or1 (mt_cmp (op_eqM hr.units) (me_cb cr_lenM (by rfl) hB.len_ PySem.boot_len (ma_cons (me_var 1 (pv 1)) ma_nil)) me_int (by first | exact nomark _ | rfl))))))
    (mss_one (ms_ret (me_call G_L_odd_value hgu (hr.mono (Nat.le_trans (by decide) hk)) (by rfl) (ma_cons (me_var 0 (pv 0)) ma_nil)))) mss_nil)
    (mss_cons (ms_frzA [4] (ms_par2 (i := 3) (j := 4) (by rfl) sc_L_bent.nd rfl rfl (by decide) (by rfl) (by rfl) (me_ct cr_listM (by rfl) hB.list_ PyProof.Rows.boot_list (ma_cons (me_var 1 (pv 1)) ma_nil)) (me_call G_L_take hgu (hr.mono (Nat.le_trans (by decide) hk)) (by rfl) (ma_cons (me_var 0 (pv 0)) (ma_cons (me_cb cr_lenM (by rfl) hB.len_ PySem.boot_len (ma_cons (me_var 1 (pv 1)) ma_nil)) ma_nil))) (by rfl)))
    (mss_cons (ms_if (mt_cmp (op_ltM hr.units) (me_var 2 (pv 2)) me_int (by first | exact nomark _ | rfl))
    (mss_one (ms_stO (i := 3) (pv 3) (me_var 4 (pv 4)) (me_call G_self hgu hr (by rfl) (ma_cons (me_var 0 (pv 0)) (ma_cons (me_ixV (pv 3) (me_var 4 (pv 4))) ma_nil))))) mss_nil)
    (mss_cons (ms_if (mt_cmp (op_eqM hr.units) (me_var 2 (pv 2)) me_int (by first | exact nomark _ | rfl))
    (mss_one (ms_insO (i := 3) (pv 3) (me_op op_addM (me_var 4 (pv 4)) (me_call G_L_take hgu (hr.mono (Nat.le_trans (by decide) hk)) (by rfl) (ma_cons (me_var 0 (pv 0)) (ma_cons me_int ma_nil)))) (me_call G_L_odd_value hgu (hr.mono (Nat.le_trans (by decide) hk)) (by rfl) (ma_cons (me_var 0 (pv 0)) ma_nil)))) mss_nil)
    (mss_cons (ms_if (mt_cmp (op_eqM hr.units) (me_var 2 (pv 2)) me_int (by first | exact nomark _ | rfl))
    (mss_one (ms_popO (i := 3) (pv 3) (me_var 4 (pv 4)))) mss_nil)
    (mss_cons (ms_if (mt_cmp (op_eqM hr.units) (me_var 2 (pv 2)) me_int (by first | exact nomark _ | rfl))
    (mss_one (ms_frz [3] (ms_set (i := 3) sc_L_bent.nd rfl (by first | exact Or.inl rfl | exact Or.inr rfl) (me_op op_addM (me_var 3 (pv 3)) (me_sl (me_var 3 (pv 3)) (mo_some (me_var 4 (pv 4))) (mo_some (me_op op_addM (me_var 4 (pv 4)) me_int))))))) mss_nil)
    (mss_cons (ms_if (mt_cmp (op_eqM hr.units) (me_call G_L_take hgu (hr.mono (Nat.le_trans (by decide) hk)) (by rfl) (ma_cons (me_var 0 (pv 0)) (ma_cons me_int ma_nil))) me_int (by first | exact nomark _ | rfl))
    (mss_one (ms_frz [3] (ms_ret (me_if (mt_val (me_isi (T := "list") (by rfl) hB.isinstance_ (me_var 1 (pv 1)) (by rfl) hB.list_ PyProof.Rows.boot_list)) (me_ct cr_tupleM (by rfl) hB.tuple_ PyProof.Rows.boot_tuple (ma_cons (me_var 3 (pv 3)) ma_nil)) (me_var 3 (pv 3)))))) mss_nil)
    (mss_one (ms_frz [3] (ms_ret (me_if (mt_val (me_isi (T := "list") (by rfl) hB.isinstance_ (me_var 1 (pv 1)) (by rfl) hB.list_ PyProof.Rows.boot_list)) (me_var 3 (pv 3)) (me_ct cr_tupleM (by rfl) hB.tuple_ PyProof.Rows.boot_tuple (ma_cons (me_var 3 (pv 3)) ma_nil))))))))))))))
theorem okk_L_bent {fa : Addr} {fd : FuncData} (F : Fun K "_law_bent" "_law_bent" s_L_bent fa fd) (hm : mg "_law_bent" = some (.ref fa)) (bF : Binds K fd ["_law_bag_here", "_law_thing"] []) (hB : Bl mg) (G_L_take : FnM P w K mg base 1 "_law_take" 2 m_L_take) (G_L_odd_value : FnM P w K mg base 3 "_law_odd_value" 1 m_L_odd_value) : FnM P w K mg base 9 "_law_bent" 2 mm_L_bent := (ok_L_bent F hm bF hB G_L_take G_L_odd_value (by decide) (ok_L_bent F hm bF hB G_L_take G_L_odd_value (by decide) (ok_L_bent F hm bF hB G_L_take G_L_odd_value (by decide) (ok_L_bent F hm bF hB G_L_take G_L_odd_value (by decide) (ok_L_bent F hm bF hB G_L_take G_L_odd_value (by decide) (ok_L_bent F hm bF hB G_L_take G_L_odd_value (by decide) (FnM.none (k := 3) F hm bF)))))))
end
end K14
namespace K14
open PySem PySem.Spec PyProof.Rows L2 Mr
def Yl (o : Out EV) (P : EV → Prop) : Prop := ∃ e B', o = .ok e B' ∧ BagOk B' ∧ P e
/-! ### comparisons of ints -/
theorem ok_int (i : Int) : okD (.int i) = true := rfl
theorem okC_int (i j : Int) : okC (.int i) (.int j) = true := rfl
theorem eqv_int (i j : Int) : PyData.eqv (.int i) (.int j) = (i == j) := by rw [PyData.eqv]
/-- the cell that a draw reads -/
def cellOf (B : Bag) : Int := if B.x2 < (B.cells.length : Int) then B.cells.getD B.x2.toNat 0 else 0
/-- the bag behind the first half of a draw -/
def stepB (B : Bag) : Bag :=
  if B.x0 = 0 then
    { x0 := if 1000000000000000000 ≤ cellOf B then cellOf B else B.x0, x1 := (B.x1 * 48271 + cellOf B % 2147483647 + 7919 * (B.x2 + 1)) % 2147483647, x2 := B.x2 + 1, cells := B.cells }
  else B
theorem cell_nn {B : Bag} (ok : BagOk B) : 0 ≤ cellOf B := by
  unfold cellOf
  split
  · rename_i h
    have h2 := ok.a2
    have : B.x2.toNat < B.cells.length := by omega
    rw [List.getD_eq_getElem?_getD, List.getElem?_eq_getElem this]
    exact ok.cs _ (List.getElem_mem this)
  · exact Int.le_refl 0
theorem stepB_ok {B : Bag} (ok : BagOk B) : BagOk (stepB B) := by
  unfold stepB
  split
  · have hc := cell_nn ok
    refine ⟨?_, ?_, ?_, ok.cs⟩
    · show 0 ≤ (if 1000000000000000000 ≤ cellOf B then cellOf B else B.x0)
      split
      · exact hc
      · exact ok.a0
    · constructor
      · exact Int.emod_nonneg _ (by decide)
      · exact Int.emod_lt_of_pos _ (by decide)
    · show 0 ≤ B.x2 + 1
      have := ok.a2
      omega
  · exact ok
def drawB (B : Bag) (n : Int) : Int × Bag :=
  let C := stepB B
  if 0 < C.x0 then (C.x0 % n, { C with x0 := C.x0 / n }) else
    (((((((C.x1 + 1) * 39373) % 1000000007) * (((C.x1 + 1) * 39373) % 1000000007)) % 998244353 * 30011) % 998244353) / 7 % n, C)
theorem cell_at {B : Bag} (ok : BagOk B) (h : B.x2 < (B.cells.length : Int)) : atI (B.cells.map PyData.int) B.x2 = some (.int (cellOf B)) := by
  have h2 := ok.a2
  have hl : B.x2.toNat < B.cells.length := by omega
  have e : B.x2 = ((B.x2.toNat : Nat) : Int) := by omega
  unfold cellOf
  rw [if_pos h]
  conv => lhs; rw [e]
  refine atI_nat (j := B.x2.toNat) ?_
  rw [List.getElem?_map, List.getElem?_eq_getElem hl, List.getD_eq_getElem?_getD, List.getElem?_eq_getElem hl]
  rfl
theorem cell_no {B : Bag} (h : ¬ B.x2 < (B.cells.length : Int)) : cellOf B = 0 := if_neg h
theorem lt_int' (a b : Int) : PySem.W.dataLt (.int a) (.int b) = decide (a < b) := PySem.W.dataLt_int a b
theorem take_second {B : Bag} (ok : BagOk B) {n : Int} (h0 : 0 < n) (h9 : n.natAbs < 2 ^ 9000) (r4 r5 : Option EV) :
    (sSeq (sIf (tBool (eBin gGt (eBg 0 0) (eC (.int 0))))
  (sSeq (sSetS 6 (eBin gMod (eCB gInt (aCons (eBg 0 0) aNil)) (eVar 1)))
  (sSeq (sBg 0 0 (eBin gFdiv (eBg 0 0) (eVar 1)))
  (sRet (eVar 6)))) sSkip)
  (sSeq (sSetS 2 (eBin gMod (eCB gInt (aCons (eBin gMul (eBin gAdd (eBg 0 1) (eC (.int 1))) (eC (.int 39373))) aNil)) (eC (.int 1000000007))))
  (sSeq (sSetS 3 (eBin gMod (eCB gInt (aCons (eBin gMul (eBin gMod (eCB gInt (aCons (eBin gMul (eVar 2) (eVar 2)) aNil)) (eC (.int 998244353))) (eC (.int 30011))) aNil)) (eC (.int 998244353))))
  (sRet (eBin gMod (eCB gInt (aCons (eBin gFdiv (eVar 3) (eC (.int 7))) aNil)) (eVar 1)))))) [some .bg, some (.sh (.int n)), none, none, r4, r5, none] B
    = .ok (.rt (.sh (.int (if 0 < B.x0 then B.x0 % n else (((((B.x1 + 1) * 39373) % 1000000007) * (((B.x1 + 1) * 39373) % 1000000007)) % 998244353 * 30011) % 998244353 / 7 % n)))) (if 0 < B.x0 then { B with x0 := B.x0 / n } else B) := by
  by_cases hx : 0 < B.x0
  · have hq : 0 ≤ B.x0 / n := Int.ediv_nonneg (by omega) (by omega)
    simp [mfn, sSeq, sIf, sSet, sSetS, sFrzA, sRet, sExpr, sSkip, sUnp, sPar2, sBg, sBgAdd, sApp, sFrz, sFor, forL, eVar, eC, eBin, eUn, eIf, eAnd, eOr, eNot, eTup, eLst, eCall, eCB, eBg, eChain, eSl, oNone, oSome, eIxV, tBool, tVal, tNotM, tAndM, tOrM, tScal, aNil, aCons, Out.bind, liftO, boolOf, truD, EV.data, EV.share, dataAll, isBg, bagGet, bagSet, intOf, isOw, fName, fTup, fCons, fNil, frzE, frz1, iVal, iRange, itemsD, one, two, gAdd, Mr.gSub, gMul, gMod, gFdiv, gPow, gNeg, gEq, gNe, gLt, gLe, gGt, gGe, gIx, gLen, gInt, gAbs, gIsi, isT, ok_int, okC_int, eqv_int, lt_int', hx, h0, h9, hq]
  · have m1 : ((B.x1 + 1) * 39373) % 1000000007 < 1000000007 := Int.emod_lt_of_pos _ (by decide)
    have m2 : 0 ≤ ((B.x1 + 1) * 39373) % 1000000007 := Int.emod_nonneg _ (by decide)
    have m3 : (((B.x1 + 1) * 39373) % 1000000007 * (((B.x1 + 1) * 39373) % 1000000007)) % 998244353 < 998244353 := Int.emod_lt_of_pos _ (by decide)
    have a1 : -18446744073709551616 < (B.x1 + 1) * 39373 % 1000000007 ∧ (B.x1 + 1) * 39373 % 1000000007 < 18446744073709551616 := ⟨by omega, by omega⟩
    have s7 : (7 : Nat) < 2 ^ 9000 := Nat.lt_of_lt_of_le (by decide : (7 : Nat) < 2 ^ 3) (Nat.pow_le_pow_right (by decide) (by decide))
    simp [mfn, sSeq, sIf, sSet, sSetS, sFrzA, sRet, sExpr, sSkip, sUnp, sPar2, sBg, sBgAdd, sApp, sFrz, sFor, forL, eVar, eC, eBin, eUn, eIf, eAnd, eOr, eNot, eTup, eLst, eCall, eCB, eBg, eChain, eSl, oNone, oSome, eIxV, tBool, tVal, tNotM, tAndM, tOrM, tScal, aNil, aCons, Out.bind, liftO, boolOf, truD, EV.data, EV.share, dataAll, isBg, bagGet, bagSet, intOf, isOw, fName, fTup, fCons, fNil, frzE, frz1, iVal, iRange, itemsD, one, two, gAdd, Mr.gSub, gMul, gMod, gFdiv, gPow, gNeg, gEq, gNe, gLt, gLe, gGt, gGe, gIx, gLen, gInt, gAbs, gIsi, isT, ok_int, okC_int, eqv_int, lt_int', hx, h0, h9, a1, s7]
theorem take_eq {B : Bag} (ok : BagOk B) {n : Int} (h0 : 0 < n) (h9 : n.natAbs < 2 ^ 9000) : m_L_take [.bg, .sh (.int n)] B = .ok (.sh (.int (drawB B n).1)) (drawB B n).2 := by
  have ok2 := stepB_ok ok
  have key : ∀ (r4 r5 : Option EV) (fst : SM), fst [some .bg, some (.sh (.int n)), none, none, none, none, none] B = .ok (.nx [some .bg, some (.sh (.int n)), none, none, r4, r5, none]) (stepB B) →
    mfn 7 (sSeq fst (sSeq (sIf (tBool (eBin gGt (eBg 0 0) (eC (.int 0))))
  (sSeq (sSetS 6 (eBin gMod (eCB gInt (aCons (eBg 0 0) aNil)) (eVar 1)))
  (sSeq (sBg 0 0 (eBin gFdiv (eBg 0 0) (eVar 1)))
  (sRet (eVar 6)))) sSkip)
  (sSeq (sSetS 2 (eBin gMod (eCB gInt (aCons (eBin gMul (eBin gAdd (eBg 0 1) (eC (.int 1))) (eC (.int 39373))) aNil)) (eC (.int 1000000007))))
  (sSeq (sSetS 3 (eBin gMod (eCB gInt (aCons (eBin gMul (eBin gMod (eCB gInt (aCons (eBin gMul (eVar 2) (eVar 2)) aNil)) (eC (.int 998244353))) (eC (.int 30011))) aNil)) (eC (.int 998244353))))
  (sRet (eBin gMod (eCB gInt (aCons (eBin gFdiv (eVar 3) (eC (.int 7))) aNil)) (eVar 1))))))) [.bg, .sh (.int n)] B = .ok (.sh (.int (drawB B n).1)) (drawB B n).2 := by
    intro r4 r5 fst h
    unfold mfn
    have e : ([EV.bg, EV.sh (.int n)].map some ++ List.replicate (7 - [EV.bg, EV.sh (.int n)].length) none) = [some .bg, some (.sh (.int n)), none, none, none, none, none] := rfl
    rw [e]
    have e2 : ∀ (m2 : SM), sSeq fst m2 [some .bg, some (.sh (.int n)), none, none, none, none, none] B = m2 [some .bg, some (.sh (.int n)), none, none, r4, r5, none] (stepB B) := by
      intro m2; show (match fst _ B with | .ok (.nx ρ1) B1 => m2 ρ1 B1 | o => o) = _; rw [h]
    rw [e2, take_second ok2 h0 h9]
    show Out.ok (EV.sh (.int (if 0 < (stepB B).x0 then (stepB B).x0 % n else _))) _ = Out.ok (EV.sh (.int (drawB B n).1)) (drawB B n).2
    unfold drawB
    by_cases hx : 0 < (stepB B).x0
    · simp only [if_pos hx]
    · simp only [if_neg hx]
  unfold m_L_take
  by_cases hx0 : B.x0 = 0
  · have hc := cell_nn ok
    have x2 := ok.a2
    have hm : ∀ z : Int, 0 ≤ z % 2147483647 ∧ z % 2147483647 < 2147483647 := fun z => ⟨Int.emod_nonneg _ (by decide), Int.emod_lt_of_pos _ (by decide)⟩
    have h21 : 0 ≤ B.x2 + 1 := by omega
    by_cases hl : B.x2 < (B.cells.length : Int)
    · have hat := cell_at ok hl
      by_cases hbig : 1000000000000000000 ≤ cellOf B
      · refine key (some (.sh (.int (cellOf B)))) (some (.sh (.int (B.x1 * 48271 + cellOf B % 2147483647 + 7919 * (B.x2 + 1))))) _ ?_
        simp [mfn, sSeq, sIf, sSet, sSetS, sFrzA, sRet, sExpr, sSkip, sUnp, sPar2, sBg, sBgAdd, sApp, sFrz, sFor, forL, eVar, eC, eBin, eUn, eIf, eAnd, eOr, eNot, eTup, eLst, eCall, eCB, eBg, eChain, eSl, oNone, oSome, eIxV, tBool, tVal, tNotM, tAndM, tOrM, tScal, aNil, aCons, Out.bind, liftO, boolOf, truD, EV.data, EV.share, dataAll, isBg, bagGet, bagSet, intOf, isOw, fName, fTup, fCons, fNil, frzE, frz1, iVal, iRange, itemsD, one, two, gAdd, Mr.gSub, gMul, gMod, gFdiv, gPow, gNeg, gEq, gNe, gLt, gLe, gGt, gGe, gIx, gLen, gInt, gAbs, gIsi, isT, ok_int, okC_int, eqv_int, lt_int', hx0, hl, hat, hc, h21, hbig, hm, stepB]
      · refine key (some (.sh (.int (cellOf B)))) (some (.sh (.int (B.x1 * 48271 + cellOf B % 2147483647 + 7919 * (B.x2 + 1))))) _ ?_
        have hbig' : cellOf B < 1000000000000000000 := by omega
        simp [mfn, sSeq, sIf, sSet, sSetS, sFrzA, sRet, sExpr, sSkip, sUnp, sPar2, sBg, sBgAdd, sApp, sFrz, sFor, forL, eVar, eC, eBin, eUn, eIf, eAnd, eOr, eNot, eTup, eLst, eCall, eCB, eBg, eChain, eSl, oNone, oSome, eIxV, tBool, tVal, tNotM, tAndM, tOrM, tScal, aNil, aCons, Out.bind, liftO, boolOf, truD, EV.data, EV.share, dataAll, isBg, bagGet, bagSet, intOf, isOw, fName, fTup, fCons, fNil, frzE, frz1, iVal, iRange, itemsD, one, two, gAdd, Mr.gSub, gMul, gMod, gFdiv, gPow, gNeg, gEq, gNe, gLt, gLe, gGt, gGe, gIx, gLen, gInt, gAbs, gIsi, isT, ok_int, okC_int, eqv_int, lt_int', hx0, hl, hat, hc, h21, hbig, hbig', hm, stepB]
    · have h0c := cell_no hl
      refine key (some (.sh (.int 0))) (some (.sh (.int (B.x1 * 48271 + 7919 * (B.x2 + 1))))) _ ?_
      simp [mfn, sSeq, sIf, sSet, sSetS, sFrzA, sRet, sExpr, sSkip, sUnp, sPar2, sBg, sBgAdd, sApp, sFrz, sFor, forL, eVar, eC, eBin, eUn, eIf, eAnd, eOr, eNot, eTup, eLst, eCall, eCB, eBg, eChain, eSl, oNone, oSome, eIxV, tBool, tVal, tNotM, tAndM, tOrM, tScal, aNil, aCons, Out.bind, liftO, boolOf, truD, EV.data, EV.share, dataAll, isBg, bagGet, bagSet, intOf, isOw, fName, fTup, fCons, fNil, frzE, frz1, iVal, iRange, itemsD, one, two, gAdd, Mr.gSub, gMul, gMod, gFdiv, gPow, gNeg, gEq, gNe, gLt, gLe, gGt, gGe, gIx, gLen, gInt, gAbs, gIsi, isT, ok_int, okC_int, eqv_int, lt_int', hx0, hl, h21, hm, stepB, h0c]
  · refine key none none _ ?_
    simp [mfn, sSeq, sIf, sSet, sSetS, sFrzA, sRet, sExpr, sSkip, sUnp, sPar2, sBg, sBgAdd, sApp, sFrz, sFor, forL, eVar, eC, eBin, eUn, eIf, eAnd, eOr, eNot, eTup, eLst, eCall, eCB, eBg, eChain, eSl, oNone, oSome, eIxV, tBool, tVal, tNotM, tAndM, tOrM, tScal, aNil, aCons, Out.bind, liftO, boolOf, truD, EV.data, EV.share, dataAll, isBg, bagGet, bagSet, intOf, isOw, fName, fTup, fCons, fNil, frzE, frz1, iVal, iRange, itemsD, one, two, gAdd, Mr.gSub, gMul, gMod, gFdiv, gPow, gNeg, gEq, gNe, gLt, gLe, gGt, gGe, gIx, gLen, gInt, gAbs, gIsi, isT, ok_int, okC_int, eqv_int, lt_int', hx0, stepB]
theorem draw_ok {B : Bag} (ok : BagOk B) {n : Int} (h0 : 0 < n) : BagOk (drawB B n).2 ∧ 0 ≤ (drawB B n).1 ∧ (drawB B n).1 < n := by
  have ok2 := stepB_ok ok
  unfold drawB
  by_cases hx : 0 < (stepB B).x0
  · simp only [if_pos hx]
    exact ⟨⟨Int.ediv_nonneg (by omega) (by omega), ok2.a1, ok2.a2, ok2.cs⟩, Int.emod_nonneg _ (by omega), Int.emod_lt_of_pos _ h0⟩
  · simp only [if_neg hx]
    exact ⟨ok2, Int.emod_nonneg _ (by omega), Int.emod_lt_of_pos _ h0⟩
theorem take_yl {B : Bag} (ok : BagOk B) {n : Int} (h0 : 0 < n) (h9 : n.natAbs < 2 ^ 9000) : ∃ r B', m_L_take [.bg, .sh (.int n)] B = .ok (.sh (.int r)) B' ∧ BagOk B' ∧ 0 ≤ r ∧ r < n :=
  ⟨_, _, take_eq ok h0 h9, (draw_ok ok h0).1, (draw_ok ok h0).2.1, (draw_ok ok h0).2.2⟩
end K14
namespace K14
open PySem PySem.Spec PyProof.Rows L2 Mr
theorem eqv_nil (xs : List PyData) : PyData.eqv (.list xs) (.list []) = xs.isEmpty := by
  cases xs with
  | nil => rfl
  | cons x xs => rw [PyData.eqv, PyData.eqvAll]; rfl
theorem Gd.int {i : Int} (h : i.natAbs < 2 ^ 120) : Gd 0 0 (.int i) := by
  have hl : i.natAbs.log2 < 120 := by
    by_cases h0 : i.natAbs = 0
    · rw [h0]; decide
    · exact (Nat.log2_lt h0).mpr h
  refine ⟨?_, ?_, by simp [PyData.bulk], by simp [PyData.depth]⟩
  · simp only [PyData.leavesShort, decide_eq_true_eq]
    show (Str.ofString (toString i)).length ≤ 130
    have := int_text_length_le (k := 120) (by decide) hl
    rw [PySem.ofString_length]
    omega
  · simp only [PyData.showable, decide_eq_true_eq]; omega
/-! ### what the program and the law say of a value -/
def intB : PyData → Bool
  | .int _ => true
  | _ => false
def numB (l : Int) : PyData → Bool
  | .int i => decide (l ≤ i)
  | _ => false
def letters : Str := "abcdefghijklmnopqrstuvwxyz"
def kindS (x : Str) : Bool := decide (0 < x.length) && decide (x.length ≤ 8) && x.cps.toList.all fun c => decide (c ∈ letters.cps.toList)
def kindB : PyData → Bool
  | .str x => kindS x
  | _ => false
def cartB : PyData → Bool
  | .tuple [a, b, .bool t] => kindB a && kindB b && (!t || !PySem.W.dataLt b a)
  | _ => false
def stepB' : PyData → Bool
  | .tuple [.tuple [a, b, .bool t], .bool u] => cartB (.tuple [a, b, .bool t]) && (!u || (t && !PyData.eqv a b))
  | _ => false
theorem is_integer_eq (d : PyData) (B : Bag) : m_is_integer [.sh d] B = .ok (.sh (.bool (intB d))) B := by
  cases d <;> rfl
theorem l_is_int_eq (d : PyData) (B : Bag) : m_L_is_int [.sh d] B = .ok (.sh (.bool (intB d))) B := by
  cases d <;> rfl
theorem is_number_eq (l : Int) (d : PyData) (B : Bag) : m_is_number [.sh (.int l), .sh d] B = .ok (.sh (.bool (numB l d))) B := by
  cases d with
  | int i =>
    simp [m_is_number, mfn, sSeq, sIf, sSet, sSetS, sFrzA, sRet, sExpr, sSkip, sUnp, sPar2, sBg, sBgAdd, sApp, sFrz, sFor, forL, eVar, eC, eBin, eUn, eIf, eAnd, eOr, eNot, eTup, eLst, eCall, eCB, eBg, eChain, eSl, oNone, oSome, eIxV, tBool, tVal, tNotM, tAndM, tOrM, tScal, aNil, aCons, Out.bind, liftO, boolOf, truD, EV.data, EV.share, dataAll, isBg, bagGet, bagSet, intOf, isOw, fName, fTup, fCons, fNil, frzE, frz1, iVal, iRange, itemsD, one, two, gAdd, Mr.gSub, gMul, gMod, gFdiv, gPow, gNeg, gEq, gNe, gLt, gLe, gGt, gGe, gIx, gLen, gInt, gAbs, gIsi, isT, is_integer_eq, intB, numB, okC_int, lt_intD]
    by_cases h : l ≤ i
    · have : ¬ i < l := by omega
      simp [h, this]
    · have : i < l := by omega
      simp [h, this]
  | _ => simp [m_is_number, mfn, sSeq, sIf, sSet, sSetS, sFrzA, sRet, sExpr, sSkip, sUnp, sPar2, sBg, sBgAdd, sApp, sFrz, sFor, forL, eVar, eC, eBin, eUn, eIf, eAnd, eOr, eNot, eTup, eLst, eCall, eCB, eBg, eChain, eSl, oNone, oSome, eIxV, tBool, tVal, tNotM, tAndM, tOrM, tScal, aNil, aCons, Out.bind, liftO, boolOf, truD, EV.data, EV.share, dataAll, isBg, bagGet, bagSet, intOf, isOw, fName, fTup, fCons, fNil, frzE, frz1, iVal, iRange, itemsD, one, two, gAdd, Mr.gSub, gMul, gMod, gFdiv, gPow, gNeg, gEq, gNe, gLt, gLe, gGt, gGe, gIx, gLen, gInt, gAbs, gIsi, isT, is_integer_eq, intB, numB]
theorem len_le {x : Str} (h : x.length ≤ 100000) : x.length ≤ sizeLine := by rw [sizeLine_eq]; omega
theorem is_kind_eq {d : PyData} (B : Bag) (h : d.bulk ≤ 100000) : m_is_kind [.sh d] B = .ok (.sh (.bool (kindB d))) B := by
  cases d with
  | str x =>
    have hx : x.length ≤ 100000 := by rw [PyData.bulk] at h; exact h
    have hz := len_le hx
    have comp : compL (fName 1) tYesM (eBin gIn (eVar 1) (eC (.str "abcdefghijklmnopqrstuvwxyz"))) (x.cps.toList.map fun c => PyData.str ⟨#[c]⟩) [some (.sh (.str x)), none] [] B
        = .ok ([] ++ (x.cps.toList.map fun c => PyData.str ⟨#[c]⟩).map fun d => match d with | .str ⟨⟨[c]⟩⟩ => .bool (decide (c ∈ letters.cps.toList)) | _ => .none) B := by
      refine compL_map _ _ _ _ _ ?_ ?_
      · have e : x.cps.toList.length = x.length := rfl
        simp only [List.length_nil, List.length_map, e]
        omega
      · intro d hd
        simp only [List.mem_map] at hd
        obtain ⟨c, hc, rfl⟩ := hd
        exact ⟨[some (.sh (.str x)), some (.sh (.str ⟨#[c]⟩))], .sh (.bool (decide (c ∈ letters.cps.toList))), rfl, rfl, rfl⟩
    have bools : ∀ l : List Nat, boolsD ((l.map fun c => PyData.str ⟨#[c]⟩).map fun d => match d with | .str ⟨⟨[c]⟩⟩ => PyData.bool (decide (c ∈ letters.cps.toList)) | _ => .none) = some (l.map fun c => decide (c ∈ letters.cps.toList)) := by
      intro l
      induction l with
      | nil => rfl
      | cons c l ih =>
        simp only [List.map_cons, boolsD, ih]
        rfl
    have lenI : gLen [.str x] = some (.sh (.int (x.length : Int))) := by simp [gLen, hz]
    have c1 : gLt (.int 0) (.int (x.length : Int)) = some (.sh (.bool (decide (0 < x.length)))) := by
      simp [gLt, okC_int, lt_intD]
    have c2 : gLe (.int (x.length : Int)) (.int 8) = some (.sh (.bool (decide (x.length ≤ 8)))) := by
      simp only [gLe, okC_int, lt_intD, if_true]
      congr 3
      by_cases h : x.length ≤ 8
      · have : ¬ (8 : Int) < (x.length : Int) := by omega
        simp [h, this]
      · have : (8 : Int) < (x.length : Int) := by omega
        simp [h, this]
    have cmp : eComp [1] (iVal (eVar 0)) (fName 1) tYesM (eBin gIn (eVar 1) (eC (.str "abcdefghijklmnopqrstuvwxyz"))) [some (.sh (.str x)), none] B
        = .ok (.ow (.list ((x.cps.toList.map fun c => PyData.str ⟨#[c]⟩).map fun d => match d with | .str ⟨⟨[c]⟩⟩ => .bool (decide (c ∈ letters.cps.toList)) | _ => .none))) B := by
      show (compL (fName 1) tYesM (eBin gIn (eVar 1) (eC (.str "abcdefghijklmnopqrstuvwxyz"))) (x.cps.toList.map fun c => PyData.str ⟨#[c]⟩) [some (.sh (.str x)), none] [] B).bind _ = _
      rw [comp]; rfl
    have chain : eChain gLt gLe (eC (.int 0)) (eCB gLen (aCons (eVar 0) aNil)) (eC (.int 8)) [some (.sh (.str x)), none] B = .ok (.sh (.bool (decide (0 < x.length) && decide (x.length ≤ 8)))) B := by
      simp only [eChain, eC, bind_ok, eCB, aCons, eVar, aNil, List.getElem?_cons_zero, EV.share, dataAll, Option.map_some, Option.bind_some, lenI, liftO_some, EV.data, c1, boolOf]
      cases decide (0 < x.length) with
      | false => rfl
      | true => simp only [bind_ok, EV.data, Option.bind_some, c2, liftO_some, Bool.true_and]
    have allE : eCB gAll (aCons (eComp [1] (iVal (eVar 0)) (fName 1) tYesM (eBin gIn (eVar 1) (eC (.str "abcdefghijklmnopqrstuvwxyz")))) aNil) [some (.sh (.str x)), none] B = .ok (.sh (.bool (x.cps.toList.all fun c => decide (c ∈ letters.cps.toList)))) B := by
      simp only [eCB, aCons, cmp, aNil, bind_ok, EV.share, dataAll, Option.map_some, Option.bind_some, gAll, bools, liftO_some]
      congr 3
      simp [List.all_map]
    show (match (eAnd _ _ [some (.sh (.str x)), none] B).bind fun e B1 => Out.ok (Flow.rt e) B1 with | .ok (.rt e) B' => Out.ok e B' | .ok (.nx _) B' => .ok (.sh .none) B' | _ => .bad) = _
    have isS : eUn (gIsi "str") (eVar 0) [some (.sh (.str x)), none] B = .ok (.sh (.bool true)) B := rfl
    simp only [eAnd, isS, bind_ok, boolOf, if_true, chain]
    cases hk : (decide (0 < x.length) && decide (x.length ≤ 8)) with
    | false => simp [kindB, kindS, hk]
    | true => simp [allE, kindB, kindS, hk]
  | _ => rfl
theorem l_is_kind_eq {d : PyData} (B : Bag) (h : d.bulk ≤ 100000) : m_L_is_kind [.sh d] B = .ok (.sh (.bool (kindB d))) B := by
  cases d with
  | str x =>
    have hx : x.length ≤ 100000 := by rw [PyData.bulk] at h; exact h
    have hz := len_le hx
    have lenI : gLen [.str x] = some (.sh (.int (x.length : Int))) := by simp [gLen, hz]
    have c1 : gLt (.int 0) (.int (x.length : Int)) = some (.sh (.bool (decide (0 < x.length)))) := by
      simp [gLt, okC_int, lt_intD]
    have c2 : gLt (.int (x.length : Int)) (.int 9) = some (.sh (.bool (decide (x.length ≤ 8)))) := by
      simp only [gLt, okC_int, lt_intD, if_true]
      congr 3
      by_cases h : x.length ≤ 8
      · have : (x.length : Int) < 9 := by omega
        simp [h, this]
      · have : ¬ (x.length : Int) < 9 := by omega
        simp [h, this]
    have comp : compL (fName 1) (tBool (eBin gNotIn (eVar 1) (eC (.str "abcdefghijklmnopqrstuvwxyz")))) (eVar 1) (x.cps.toList.map fun c => PyData.str ⟨#[c]⟩) [some (.sh (.str x)), none] [] B
        = .ok ([] ++ ((x.cps.toList.map fun c => PyData.str ⟨#[c]⟩).filter fun d => match d with | .str ⟨⟨[c]⟩⟩ => !decide (c ∈ letters.cps.toList) | _ => false).map id) B := by
      refine compL_filter _ _ _ _ _ _ ?_ ?_
      · have e : x.cps.toList.length = x.length := rfl
        simp only [List.length_nil, List.length_map, e]
        omega
      · intro d hd
        simp only [List.mem_map] at hd
        obtain ⟨c, hc, rfl⟩ := hd
        exact ⟨[some (.sh (.str x)), some (.sh (.str ⟨#[c]⟩))], .sh (.str ⟨#[c]⟩), rfl, rfl, rfl, rfl⟩
    have cmp : eComp [1] (iVal (eVar 0)) (fName 1) (tBool (eBin gNotIn (eVar 1) (eC (.str "abcdefghijklmnopqrstuvwxyz")))) (eVar 1) [some (.sh (.str x)), none] B
        = .ok (.ow (.list ((x.cps.toList.map fun c => PyData.str ⟨#[c]⟩).filter fun d => match d with | .str ⟨⟨[c]⟩⟩ => !decide (c ∈ letters.cps.toList) | _ => false))) B := by
      show (compL (fName 1) (tBool (eBin gNotIn (eVar 1) (eC (.str "abcdefghijklmnopqrstuvwxyz")))) (eVar 1) (x.cps.toList.map fun c => PyData.str ⟨#[c]⟩) [some (.sh (.str x)), none] [] B).bind _ = _
      rw [comp]; simp
    have strs_ok : ∀ l : List PyData, (∀ d ∈ l, ∃ c, d = .str c) → PyData.plainAll l = true ∧ PyData.depthAll l = 0 := by
      intro l
      induction l with
      | nil => intro _; exact ⟨rfl, by simp [PyData.depthAll]⟩
      | cons a l ih =>
        intro hh
        obtain ⟨c, rfl⟩ := hh a (List.mem_cons_self ..)
        obtain ⟨i1, i2⟩ := ih fun d hd => hh d (List.mem_cons_of_mem _ hd)
        exact ⟨by simp [PyData.plainAll, PyData.plain, i1], by simp [PyData.depthAll, PyData.depth, i2]⟩
    have eqE : ∀ l : List Nat, gEqN (.list ((l.map fun c => PyData.str ⟨#[c]⟩).filter fun d => match d with | .str ⟨⟨[c]⟩⟩ => !decide (c ∈ letters.cps.toList) | _ => false)) (.list []) = some (.sh (.bool (l.all fun c => decide (c ∈ letters.cps.toList)))) := by
      intro l
      obtain ⟨i1, i2⟩ := strs_ok ((l.map fun c => PyData.str ⟨#[c]⟩).filter fun d => match d with | .str ⟨⟨[c]⟩⟩ => !decide (c ∈ letters.cps.toList) | _ => false) (fun d hd => by
        have := (List.mem_filter.mp hd).1
        simp only [List.mem_map] at this
        obtain ⟨c, _, rfl⟩ := this
        exact ⟨_, rfl⟩)
      have o1 : okD (.list ((l.map fun c => PyData.str ⟨#[c]⟩).filter fun d => match d with | .str ⟨⟨[c]⟩⟩ => !decide (c ∈ letters.cps.toList) | _ => false)) = true := by
        simp only [okD, PyData.plain, PyData.depth, i1, i2]
        rfl
      have o2 : okD (.list []) = true := rfl
      have main : ∀ l : List Nat, PyData.eqv (.list ((l.map fun c => PyData.str ⟨#[c]⟩).filter fun d => match d with | .str ⟨⟨[c]⟩⟩ => !decide (c ∈ letters.cps.toList) | _ => false)) (.list []) = l.all fun c => decide (c ∈ letters.cps.toList) := by
       intro l
       induction l with
       | nil => rfl
       | cons c l ih =>
         cases hc : decide (c ∈ letters.cps.toList) with
         | true =>
           have : (((c :: l).map fun c => PyData.str ⟨#[c]⟩).filter fun d => match d with | .str ⟨⟨[c]⟩⟩ => !decide (c ∈ letters.cps.toList) | _ => false) = ((l.map fun c => PyData.str ⟨#[c]⟩).filter fun d => match d with | .str ⟨⟨[c]⟩⟩ => !decide (c ∈ letters.cps.toList) | _ => false) := by
             rw [List.map_cons, List.filter_cons]
             simp only [hc, Bool.not_true, Bool.false_eq_true, if_false]
           rw [this, ih]
           simp only [List.all_cons, hc, Bool.true_and]
         | false =>
           have : (((c :: l).map fun c => PyData.str ⟨#[c]⟩).filter fun d => match d with | .str ⟨⟨[c]⟩⟩ => !decide (c ∈ letters.cps.toList) | _ => false) = PyData.str ⟨#[c]⟩ :: ((l.map fun c => PyData.str ⟨#[c]⟩).filter fun d => match d with | .str ⟨⟨[c]⟩⟩ => !decide (c ∈ letters.cps.toList) | _ => false) := by
             rw [List.map_cons, List.filter_cons]
             simp only [hc, Bool.not_false, if_true]
           rw [this]
           simp only [List.all_cons, hc, Bool.false_and]
           rw [PyData.eqv, PyData.eqvAll]
      have e := main l
      rw [eqv_nil] at e
      simp only [gEqN, e]
    have chain : eChain gLt gLt (eC (.int 0)) (eCB gLen (aCons (eVar 0) aNil)) (eC (.int 9)) [some (.sh (.str x)), none] B = .ok (.sh (.bool (decide (0 < x.length) && decide (x.length ≤ 8)))) B := by
      simp only [eChain, eC, bind_ok, eCB, aCons, eVar, aNil, List.getElem?_cons_zero, EV.share, dataAll, Option.map_some, Option.bind_some, lenI, liftO_some, EV.data, c1, boolOf]
      cases decide (0 < x.length) with
      | false => rfl
      | true => simp only [bind_ok, EV.data, Option.bind_some, c2, liftO_some, Bool.true_and]
    have isS : tVal (eUn (gIsi "str") (eVar 0)) [some (.sh (.str x)), none] B = .ok true B := rfl
    have retE : eBin gEqN (eComp [1] (iVal (eVar 0)) (fName 1) (tBool (eBin gNotIn (eVar 1) (eC (.str "abcdefghijklmnopqrstuvwxyz")))) (eVar 1)) (eLst aNil) [some (.sh (.str x)), none] B = .ok (.sh (.bool (x.cps.toList.all fun c => decide (c ∈ letters.cps.toList)))) B := by
      have l0 : eLst aNil [some (.sh (.str x)), none] B = .ok (.ow (.list [])) B := rfl
      simp only [eBin, cmp, l0, bind_ok, EV.data, Option.bind_some, eqE, liftO_some]
    unfold m_L_is_kind mfn
    have e0 : ([EV.sh (.str x)].map some ++ List.replicate (2 - [EV.sh (.str x)].length) none) = [some (.sh (.str x)), none] := rfl
    rw [e0]
    simp only [sSeq, sIf, tOrM, tNotM, isS, bind_ok, Bool.not_true, Bool.false_eq_true, if_false, tBool, chain, boolOf]
    cases hk : (decide (0 < x.length) && decide (x.length ≤ 8)) with
    | false => simp [kindB, kindS, hk, sRet, eC]
    | true => simp [sRet, sSkip, retE, kindB, kindS, hk]
  | _ => rfl
end K14
namespace K14
open PySem PySem.Spec PyProof.Rows L2 Mr
theorem bulk3 {a b c : PyData} (h : (PyData.tuple [a, b, c]).bulk ≤ 100000) : a.bulk ≤ 100000 ∧ b.bulk ≤ 100000 ∧ c.bulk ≤ 100000 := by
  simp only [PyData.bulk, PyData.bulkAll] at h
  omega
theorem bulk2 {a b : PyData} (h : (PyData.tuple [a, b]).bulk ≤ 100000) : a.bulk ≤ 100000 ∧ b.bulk ≤ 100000 := by
  simp only [PyData.bulk, PyData.bulkAll] at h
  omega
theorem kind_str {a : PyData} (h : kindB a = true) : ∃ x, a = .str x := by
  cases a with
  | str x => exact ⟨x, rfl⟩
  | _ => cases h
theorem ne_len {n k : Nat} (h : n ≠ k) : gNe (.int (n : Int)) (.int (k : Int)) = some (.sh (.bool true)) := by
  have : ((n : Int) == (k : Int)) = false := by
    rw [beq_eq_false_iff_ne]; omega
  simp [gNe, okD_int, eqv_int, this]
theorem ne_same (k : Int) : gNe (.int k) (.int k) = some (.sh (.bool false)) := by
  simp [gNe, okD_int, eqv_int]
/-- the shape of both readings of a cart -/
theorem cart_core (K : FM) (hK : ∀ (d : PyData) (B : Bag), d.bulk ≤ 100000 → K [.sh d] B = .ok (.sh (.bool (kindB d))) B) {d : PyData} (B : Bag) (h : d.bulk ≤ 100000) :
    mfn 1 (sSeq (sIf (tOrM (tNotM (tVal (eUn (gIsi "tuple") (eVar 0)))) (tOrM (tBool (eBin gNe (eCB gLen (aCons (eVar 0) aNil)) (eC (.int 3)))) (tNotM (tVal (eUn (gIsi "bool") (eBin gIx (eVar 0) (eC (.int 2))))))))
  (sRet (eC (.bool false))) sSkip)
  (sRet (eAnd (eCall 1 K (aCons (eBin gIx (eVar 0) (eC (.int 0))) aNil)) (eAnd (eCall 1 K (aCons (eBin gIx (eVar 0) (eC (.int 1))) aNil)) (eOr (eNot (eBin gIx (eVar 0) (eC (.int 2)))) (eBin gLe (eBin gIx (eVar 0) (eC (.int 0))) (eBin gIx (eVar 0) (eC (.int 1))))))))) [.sh d] B = .ok (.sh (.bool (cartB d))) B := by
  cases d with
  | tuple xs =>
    by_cases h3 : xs.length = 3
    · match xs, h3 with
      | [a, b, c], _ =>
        obtain ⟨ha, hb, _⟩ := bulk3 h
        have i0 : gIx (.tuple [a, b, c]) (.int 0) = some (.sh a) := rfl
        have i1 : gIx (.tuple [a, b, c]) (.int 1) = some (.sh b) := rfl
        have i2 : gIx (.tuple [a, b, c]) (.int 2) = some (.sh c) := rfl
        have l3 : gLen [.tuple [a, b, c]] = some (.sh (.int 3)) := rfl
        have e0 : ([EV.sh (.tuple [a, b, c])].map some ++ List.replicate (1 - [EV.sh (.tuple [a, b, c])].length) none) = [some (.sh (.tuple [a, b, c]))] := rfl
        have t0 : tVal (eUn (gIsi "tuple") (eVar 0)) [some (.sh (.tuple [a, b, c]))] B = .ok true B := rfl
        have t1 : tBool (eBin gNe (eCB gLen (aCons (eVar 0) aNil)) (eC (.int 3))) [some (.sh (.tuple [a, b, c]))] B = .ok false B := by
          simp only [tBool, eBin, eCB, aCons, eVar, aNil, eC, List.getElem?_cons_zero, bind_ok, EV.share, dataAll, Option.map_some, Option.bind_some, l3, liftO_some, EV.data, ne_same, boolOf]
        have g2 : eBin gIx (eVar 0) (eC (.int 2)) [some (.sh (.tuple [a, b, c]))] B = .ok (.sh c) B := rfl
        have g0 : eBin gIx (eVar 0) (eC (.int 0)) [some (.sh (.tuple [a, b, c]))] B = .ok (.sh a) B := rfl
        have g1 : eBin gIx (eVar 0) (eC (.int 1)) [some (.sh (.tuple [a, b, c]))] B = .ok (.sh b) B := rfl
        have k0 : eCall 1 K (aCons (eBin gIx (eVar 0) (eC (.int 0))) aNil) [some (.sh (.tuple [a, b, c]))] B = .ok (.sh (.bool (kindB a))) B := by
          simp only [eCall, aCons, g0, aNil, bind_ok, EV.share, List.length_cons, List.length_nil, if_true, hK a B ha]
        have k1 : eCall 1 K (aCons (eBin gIx (eVar 0) (eC (.int 1))) aNil) [some (.sh (.tuple [a, b, c]))] B = .ok (.sh (.bool (kindB b))) B := by
          simp only [eCall, aCons, g1, aNil, bind_ok, EV.share, List.length_cons, List.length_nil, if_true, hK b B hb]
        unfold mfn
        rw [e0]
        cases c with
        | bool t =>
          have tb : tVal (eUn (gIsi "bool") (eBin gIx (eVar 0) (eC (.int 2)))) [some (.sh (.tuple [a, b, .bool t]))] B = .ok true B := rfl
          have nt : eNot (eBin gIx (eVar 0) (eC (.int 2))) [some (.sh (.tuple [a, b, .bool t]))] B = .ok (.sh (.bool (!t))) B := rfl
          simp only [sSeq, sIf, tOrM, tNotM, t0, t1, tb, bind_ok, Bool.not_true, Bool.false_eq_true, if_false, sSkip, sRet, eAnd, k0, k1, boolOf, cartB]
          cases ka : kindB a with
          | false => simp
          | true =>
            cases kb : kindB b with
            | false => simp
            | true =>
              obtain ⟨x, rfl⟩ := kind_str ka
              obtain ⟨y, rfl⟩ := kind_str kb
              have le : eBin gLe (eBin gIx (eVar 0) (eC (.int 0))) (eBin gIx (eVar 0) (eC (.int 1))) [some (.sh (.tuple [.str x, .str y, .bool t]))] B = .ok (.sh (.bool (!PySem.W.dataLt (.str y) (.str x)))) B := by
                simp only [eBin, g0, g1]
                rfl
              simp only [if_true, bind_ok, eOr, nt, boolOf, le]
              cases t <;> simp
        | _ => rfl
    · have l3 : gLen [.tuple xs] = some (.sh (.int (xs.length : Int))) := rfl
      have t0 : tVal (eUn (gIsi "tuple") (eVar 0)) [some (.sh (.tuple xs))] B = .ok true B := rfl
      have t1 : tBool (eBin gNe (eCB gLen (aCons (eVar 0) aNil)) (eC (.int 3))) [some (.sh (.tuple xs))] B = .ok true B := by
        simp only [tBool, eBin, eCB, aCons, eVar, aNil, eC, List.getElem?_cons_zero, bind_ok, EV.share, dataAll, Option.map_some, Option.bind_some, l3, liftO_some, EV.data]
        rw [show (3 : Int) = ((3 : Nat) : Int) from rfl, ne_len h3]
        rfl
      have e0 : ([EV.sh (.tuple xs)].map some ++ List.replicate (1 - [EV.sh (.tuple xs)].length) none) = [some (.sh (.tuple xs))] := rfl
      have cf : cartB (.tuple xs) = false := by
        unfold cartB
        split
        · rename_i e; cases e; exact absurd rfl h3
        · rfl
      unfold mfn
      rw [e0, cf]
      simp only [sSeq, sIf, tOrM, tNotM, t0, t1, bind_ok, Bool.not_true, Bool.false_eq_true, if_false, if_true, sRet, eC]
  | _ => rfl
theorem is_cart_eq {d : PyData} (B : Bag) (h : d.bulk ≤ 100000) : m_is_cart [.sh d] B = .ok (.sh (.bool (cartB d))) B := cart_core m_is_kind (fun d B h => is_kind_eq B h) B h
theorem l_is_cart_eq {d : PyData} (B : Bag) (h : d.bulk ≤ 100000) : m_L_is_cart [.sh d] B = .ok (.sh (.bool (cartB d))) B := cart_core m_L_is_kind (fun d B h => l_is_kind_eq B h) B h
theorem cart_shape {d : PyData} (h : cartB d = true) : ∃ x y t, d = .tuple [.str x, .str y, .bool t] := by
  unfold cartB at h
  split at h
  · simp only [Bool.and_eq_true] at h
    obtain ⟨x, rfl⟩ := kind_str h.1.1
    obtain ⟨y, rfl⟩ := kind_str h.1.2
    exact ⟨x, y, _, rfl⟩
  · cases h
theorem is_step_eq {d : PyData} (B : Bag) (h : d.bulk ≤ 100000) : m_is_step [.sh d] B = .ok (.sh (.bool (stepB' d))) B := by
  cases d with
  | tuple xs =>
    by_cases h3 : xs.length = 2
    · match xs, h3 with
      | [a, b], _ =>
        obtain ⟨ha, hb⟩ := bulk2 h
        have l3 : gLen [.tuple [a, b]] = some (.sh (.int 2)) := rfl
        have e0 : ([EV.sh (.tuple [a, b])].map some ++ List.replicate (1 - [EV.sh (.tuple [a, b])].length) none) = [some (.sh (.tuple [a, b]))] := rfl
        have t0 : tVal (eUn (gIsi "tuple") (eVar 0)) [some (.sh (.tuple [a, b]))] B = .ok true B := rfl
        have t1 : tBool (eBin gNe (eCB gLen (aCons (eVar 0) aNil)) (eC (.int 2))) [some (.sh (.tuple [a, b]))] B = .ok false B := by
          simp only [tBool, eBin, eCB, aCons, eVar, aNil, eC, List.getElem?_cons_zero, bind_ok, EV.share, dataAll, Option.map_some, Option.bind_some, l3, liftO_some, EV.data, ne_same, boolOf]
        have g0 : eBin gIx (eVar 0) (eC (.int 0)) [some (.sh (.tuple [a, b]))] B = .ok (.sh a) B := rfl
        have t2 : tVal (eCall 1 m_is_cart (aCons (eBin gIx (eVar 0) (eC (.int 0))) aNil)) [some (.sh (.tuple [a, b]))] B = .ok (cartB a) B := by
          simp only [tVal, eCall, aCons, g0, aNil, bind_ok, EV.share, List.length_cons, List.length_nil, if_true, is_cart_eq B ha, EV.data, Option.bind_some, truD]
        unfold m_is_step mfn
        rw [e0]
        simp only [sSeq, sIf, tOrM, tNotM, t0, t1, t2, bind_ok, Bool.not_true, Bool.false_eq_true, if_false]
        cases kc : cartB a with
        | false =>
          have : stepB' (.tuple [a, b]) = false := by
            unfold stepB'
            split
            · rename_i e; cases e; rw [kc]; rfl
            · rfl
          rw [this]; rfl
        | true =>
          obtain ⟨x, y, t, rfl⟩ := cart_shape kc
          cases b with
          | bool u =>
            simp only [stepB', kc, Bool.true_and]
            cases u with
            | false => rfl
            | true =>
              cases t with
              | false => rfl
              | true =>
                show Out.ok (EV.sh (.bool (!PyData.eqv (.str x) (.str y)))) B = _
                simp
          | _ => rfl
    · have l3 : gLen [.tuple xs] = some (.sh (.int (xs.length : Int))) := rfl
      have t0 : tVal (eUn (gIsi "tuple") (eVar 0)) [some (.sh (.tuple xs))] B = .ok true B := rfl
      have t1 : tBool (eBin gNe (eCB gLen (aCons (eVar 0) aNil)) (eC (.int 2))) [some (.sh (.tuple xs))] B = .ok true B := by
        simp only [tBool, eBin, eCB, aCons, eVar, aNil, eC, List.getElem?_cons_zero, bind_ok, EV.share, dataAll, Option.map_some, Option.bind_some, l3, liftO_some, EV.data]
        rw [show (2 : Int) = ((2 : Nat) : Int) from rfl, ne_len h3]
        rfl
      have e0 : ([EV.sh (.tuple xs)].map some ++ List.replicate (1 - [EV.sh (.tuple xs)].length) none) = [some (.sh (.tuple xs))] := rfl
      have cf : stepB' (.tuple xs) = false := by
        unfold stepB'
        split
        · rename_i e; cases e; exact absurd rfl h3
        · rfl
      unfold m_is_step mfn
      rw [e0, cf]
      simp only [sSeq, sIf, tOrM, tNotM, t0, t1, bind_ok, Bool.not_true, Bool.false_eq_true, if_false, if_true, sRet, eC]
  | _ => rfl
theorem l_is_step_eq {d : PyData} (B : Bag) (h : d.bulk ≤ 100000) : m_L_is_step [.sh d] B = .ok (.sh (.bool (stepB' d))) B := by
  cases d with
  | tuple xs =>
    by_cases h3 : xs.length = 2
    · match xs, h3 with
      | [a, b], _ =>
        obtain ⟨ha, hb⟩ := bulk2 h
        have l3 : gLen [.tuple [a, b]] = some (.sh (.int 2)) := rfl
        have e0 : ([EV.sh (.tuple [a, b])].map some ++ List.replicate (1 - [EV.sh (.tuple [a, b])].length) none) = [some (.sh (.tuple [a, b]))] := rfl
        have t0 : tVal (eUn (gIsi "tuple") (eVar 0)) [some (.sh (.tuple [a, b]))] B = .ok true B := rfl
        have t1 : tBool (eBin gNe (eCB gLen (aCons (eVar 0) aNil)) (eC (.int 2))) [some (.sh (.tuple [a, b]))] B = .ok false B := by
          simp only [tBool, eBin, eCB, aCons, eVar, aNil, eC, List.getElem?_cons_zero, bind_ok, EV.share, dataAll, Option.map_some, Option.bind_some, l3, liftO_some, EV.data, ne_same, boolOf]
        have g0 : eBin gIx (eVar 0) (eC (.int 0)) [some (.sh (.tuple [a, b]))] B = .ok (.sh a) B := rfl
        have t2 : tVal (eCall 1 m_L_is_cart (aCons (eBin gIx (eVar 0) (eC (.int 0))) aNil)) [some (.sh (.tuple [a, b]))] B = .ok (cartB a) B := by
          simp only [tVal, eCall, aCons, g0, aNil, bind_ok, EV.share, List.length_cons, List.length_nil, if_true, l_is_cart_eq B ha, EV.data, Option.bind_some, truD]
        unfold m_L_is_step mfn
        rw [e0]
        simp only [sSeq, sIf, tOrM, tNotM, t0, t1, t2, bind_ok, Bool.not_true, Bool.false_eq_true, if_false]
        cases kc : cartB a with
        | false =>
          have : stepB' (.tuple [a, b]) = false := by
            unfold stepB'
            split
            · rename_i e; cases e; rw [kc]; rfl
            · rfl
          rw [this]; rfl
        | true =>
          obtain ⟨x, y, t, rfl⟩ := cart_shape kc
          cases b with
          | bool u =>
            simp only [stepB', kc, Bool.true_and]
            cases u with
            | false => rfl
            | true =>
              cases t with
              | false => rfl
              | true =>
                show Out.ok (EV.sh (.bool (!PyData.eqv (.str x) (.str y)))) B = _
                simp
          | _ => rfl
    · have l3 : gLen [.tuple xs] = some (.sh (.int (xs.length : Int))) := rfl
      have t0 : tVal (eUn (gIsi "tuple") (eVar 0)) [some (.sh (.tuple xs))] B = .ok true B := rfl
      have t1 : tBool (eBin gNe (eCB gLen (aCons (eVar 0) aNil)) (eC (.int 2))) [some (.sh (.tuple xs))] B = .ok true B := by
        simp only [tBool, eBin, eCB, aCons, eVar, aNil, eC, List.getElem?_cons_zero, bind_ok, EV.share, dataAll, Option.map_some, Option.bind_some, l3, liftO_some, EV.data]
        rw [show (2 : Int) = ((2 : Nat) : Int) from rfl, ne_len h3]
        rfl
      have e0 : ([EV.sh (.tuple xs)].map some ++ List.replicate (1 - [EV.sh (.tuple xs)].length) none) = [some (.sh (.tuple xs))] := rfl
      have cf : stepB' (.tuple xs) = false := by
        unfold stepB'
        split
        · rename_i e; cases e; exact absurd rfl h3
        · rfl
      unfold m_L_is_step mfn
      rw [e0, cf]
      simp only [sSeq, sIf, tOrM, tNotM, t0, t1, bind_ok, Bool.not_true, Bool.false_eq_true, if_false, if_true, sRet, eC]
  | _ => rfl
end K14
namespace K14
open PySem PySem.Spec PyProof.Rows L2 Mr
theorem nine (n : Nat) (h : n < 2 ^ 64) : ((n : Int)).natAbs < 2 ^ 9000 := by
  rw [Int.natAbs_natCast]; exact small9 h
theorem seq_nx {m1 m2 : SM} {ρ ρ1 : Mr.Env} {B B1 : Bag} (h : m1 ρ B = .ok (.nx ρ1) B1) : sSeq m1 m2 ρ B = m2 ρ1 B1 := by
  unfold sSeq; rw [h]
theorem seq_rt {m1 m2 : SM} {ρ : Mr.Env} {B B1 : Bag} {e : EV} (h : m1 ρ B = .ok (.rt e) B1) : sSeq m1 m2 ρ B = .ok (.rt e) B1 := by
  unfold sSeq; rw [h]
theorem if_t {c : TM} {m1 m2 : SM} {ρ : Mr.Env} {B B1 : Bag} (h : c ρ B = .ok true B1) : sIf c m1 m2 ρ B = m1 ρ B1 := by
  unfold sIf; rw [h]; rfl
theorem if_f {c : TM} {m1 m2 : SM} {ρ : Mr.Env} {B B1 : Bag} (h : c ρ B = .ok false B1) : sIf c m1 m2 ρ B = m2 ρ B1 := by
  unfold sIf; rw [h]; rfl
theorem ret_ok {m : EM} {ρ : Mr.Env} {B B1 : Bag} {e : EV} (h : m ρ B = .ok e B1) : sRet m ρ B = .ok (.rt e) B1 := by
  unfold sRet; rw [h]; rfl
theorem setS_ok {m : EM} {i : Nat} {ρ : Mr.Env} {B B1 : Bag} {e : EV} (h : m ρ B = .ok e B1) (hi : i < ρ.length) : sSetS i m ρ B = .ok (.nx (ρ.set i (some e.share))) B1 := by
  unfold sSetS; rw [h, bind_ok, if_pos hi]
theorem bin_ok {g : PyData → PyData → Option EV} {m1 m2 : EM} {ρ : Mr.Env} {B B1 B2 : Bag} {e1 e2 e : EV} {d1 d2 : PyData} (h1 : m1 ρ B = .ok e1 B1) (h2 : m2 ρ B1 = .ok e2 B2) (hd1 : e1.data = some d1) (hd2 : e2.data = some d2) (hg : g d1 d2 = some e) : eBin g m1 m2 ρ B = .ok e B2 := by
  unfold eBin; rw [h1, bind_ok, h2, bind_ok, hd1, hd2]; simp only [Option.bind_some, hg, liftO_some]
theorem oSome_ok {m : EM} {ρ : Mr.Env} {B B1 : Bag} {i : Int} (h : m ρ B = .ok (.sh (.int i)) B1) : oSome m ρ B = .ok (some i) B1 := by
  unfold oSome; rw [h, bind_ok]
theorem sl_ok {m : EM} {ol oh : OM} {ρ : Mr.Env} {B B1 B2 B3 : Bag} {e r : EV} {l h : Option Int} {d : PyData} (h1 : m ρ B = .ok e B1) (h2 : ol ρ B1 = .ok l B2) (h3 : oh ρ B2 = .ok h B3) (hd : e.data = some d) (hg : gSl l h d = some r) : eSl m ol oh ρ B = .ok r B3 := by
  unfold eSl; rw [h1, bind_ok, h2, bind_ok, h3, bind_ok, hd, Option.bind_some, hg, liftO_some]
theorem cb1_ok {g : List PyData → Option EV} {m : EM} {ρ : Mr.Env} {B B1 : Bag} {e r : EV} {d : PyData} (h1 : m ρ B = .ok e B1) (hd : e.data = some d) (hg : g [d] = some r) : eCB g (aCons m aNil) ρ B = .ok r B1 := by
  have es : e.share = .sh d := by cases e <;> cases hd <;> rfl
  unfold eCB aCons aNil; rw [h1, bind_ok, bind_ok, bind_ok, es]
  show liftO ((some [d]).bind g) B1 = _
  rw [Option.bind_some, hg, liftO_some]
theorem comp_ok {vs : List Nat} {mi : IM} {f : PyData → Mr.Env → Option Mr.Env} {tt : TM} {me : EM} {ρ ρ' : Mr.Env} {B B1 B2 : Bag} {ds acc : List PyData} (h1 : mi ρ B = .ok ds B1) (hw : wipeE ρ vs = ρ') (h2 : compL f tt me ds ρ' [] B1 = .ok acc B2) : eComp vs mi f tt me ρ B = .ok (.ow (.list acc)) B2 := by
  unfold eComp; rw [h1, bind_ok, hw, h2, bind_ok]
theorem boolT {m : EM} {ρ : Mr.Env} {B B1 : Bag} {k : Bool} (h : m ρ B = .ok (.sh (.bool k)) B1) : tBool m ρ B = .ok k B1 := by
  unfold tBool; rw [h]; rfl
theorem fn_rt {n : Nat} {ms : SM} {es : List EV} {B B1 : Bag} {e : EV} {ρ : Mr.Env} (hρ : es.map some ++ List.replicate (n - es.length) none = ρ) (h : ms ρ B = .ok (.rt e) B1) : mfn n ms es B = .ok e B1 := by
  unfold mfn; rw [hρ, h]
/-- a drawn number -/
theorem takeN {B : Bag} (ok : BagOk B) (n : Nat) (h0 : 0 < n) (h : n < 2 ^ 64) : ∃ (r : Nat) (B' : Bag), m_L_take [.bg, .sh (.int (n : Int))] B = .ok (.sh (.int (r : Int))) B' ∧ BagOk B' ∧ r < n := by
  obtain ⟨r, B', e, ok', h1, h2⟩ := take_yl ok (n := (n : Int)) (by omega) (nine n h)
  refine ⟨r.toNat, B', ?_, ok', by omega⟩
  rw [e, Int.toNat_of_nonneg h1]
/-- an expression that draws -/
theorem eTake {B : Bag} (ok : BagOk B) {ρ : Mr.Env} {j : Nat} (hb : ρ[j]? = some (some .bg)) (n : Nat) (h0 : 0 < n) (h : n < 2 ^ 64) : ∃ (r : Nat) (B' : Bag), eCall 2 m_L_take (aCons (eVar j) (aCons (eC (.int (n : Int))) aNil)) ρ B = .ok (.sh (.int (r : Int))) B' ∧ BagOk B' ∧ r < n := by
  obtain ⟨r, B', e, ok', h1⟩ := takeN ok n h0 h
  refine ⟨r, B', ?_, ok', h1⟩
  simp only [eCall, aCons, eVar, hb, eC, aNil, bind_ok, EV.share, List.length_cons, List.length_nil, if_true, e]
theorem one_yl {B : Bag} (ok : BagOk B) {ds : List PyData} (h0 : ds ≠ []) (h : ds.length < 2 ^ 32) : ∃ d B', m_L_one [.bg, .sh (.list ds)] B = .ok (.sh d) B' ∧ BagOk B' ∧ d ∈ ds := by
  obtain ⟨r, B', e, ok', h1⟩ := takeN ok ds.length (List.length_pos_iff.mpr h0) (Nat.lt_trans h (by decide))
  obtain ⟨x, hx, hm, _⟩ := atI_at (xs := ds) (i := (r : Int)) (by omega) (by omega)
  refine ⟨x, B', ?_, ok', hm⟩
  have l3 : gLen [.list ds] = some (.sh (.int (ds.length : Int))) := rfl
  have i3 : gIx (.list ds) (.int (r : Int)) = some (.sh x) := by simp only [gIx, hx, Option.map_some]
  unfold m_L_one mfn
  have e0 : ([EV.bg, EV.sh (.list ds)].map some ++ List.replicate (2 - [EV.bg, EV.sh (.list ds)].length) none) = [some .bg, some (.sh (.list ds))] := rfl
  rw [e0]
  simp only [sRet, eBin, eVar, eCall, aCons, aNil, eCB, List.getElem?_cons_zero, List.getElem?_cons_succ, bind_ok, EV.share, dataAll, Option.map_some, Option.bind_some, l3, liftO_some, List.length_cons, List.length_nil, if_true, e, EV.data, i3]
theorem eOne {B : Bag} (ok : BagOk B) {ρ : Mr.Env} {j : Nat} {m : EM} (hb : ρ[j]? = some (some .bg)) {ds : List PyData} {e : EV} (hm : m ρ B = .ok e B) (he : e.share = .sh (.list ds)) (h0 : ds ≠ []) (h : ds.length < 2 ^ 32) :
    ∃ d B', eCall 2 m_L_one (aCons (eVar j) (aCons m aNil)) ρ B = .ok (.sh d) B' ∧ BagOk B' ∧ d ∈ ds := by
  obtain ⟨d, B', e1, ok', h1⟩ := one_yl ok h0 h
  refine ⟨d, B', ?_, ok', h1⟩
  have sb : EV.bg.share = .bg := rfl
  simp only [eCall, aCons, eVar, hb, hm, aNil, bind_ok, he, sb, List.length_cons, List.length_nil, if_true, e1]
/-- a drawn kind -/
def Kd (d : PyData) : Prop := ∃ x : Str, d = .str x ∧ asc x = true ∧ x.cps.size ≤ 8
theorem strs_sortOk {ds : List PyData} (h : ∀ d ∈ ds, ∃ x, d = .str x) (hl : ds.length ≤ sizeLine) : sortOk ds = true := by
  simp only [sortOk, Bool.and_eq_true, Bool.or_eq_true, decide_eq_true_eq, allAlikeB, List.all_eq_true]
  refine ⟨⟨⟨fun d hd d' hd' => ?_, .inr fun d hd => ?_⟩, fun d hd => ?_⟩, hl⟩
  · obtain ⟨x, rfl⟩ := h d hd
    obtain ⟨y, rfl⟩ := h d' hd'
    rfl
  · obtain ⟨x, rfl⟩ := h d hd
    rfl
  · obtain ⟨x, rfl⟩ := h d hd
    simp [PyData.depth]
theorem sorted_strs {ds : List PyData} (h : ∀ d ∈ ds, Kd d) (hl : ds.length ≤ sizeLine) : ∃ es, gSorted [.list ds] = some (.ow (.list es)) ∧ es.length = ds.length ∧ ∀ d ∈ es, Kd d := by
  refine ⟨ds.mergeSort leD, ?_, List.length_mergeSort .., fun d hd => h d (List.mem_mergeSort.mp hd)⟩
  simp only [gSorted]
  rw [strs_sortOk (fun d hd => by obtain ⟨x, e, _⟩ := h d hd; exact ⟨x, e⟩) hl]
  rfl
theorem kd_of {x : Str} (h : (asc x && decide (x.cps.size ≤ 8)) = true) : Kd (.str x) := by
  simp only [Bool.and_eq_true, decide_eq_true_eq] at h
  exact ⟨x, rfl, h.1, h.2⟩
def menuD : List PyData := [.str "a", .str "aa", .str "b", .str "ab", .str "ba", .str "z", .str "zz", .str "hook", .str "end", .str "zzzzzzzz", .str "true", .str "mm"]
def eightD : List PyData := [.str "a", .str "b", .str "c", .str "d", .str "e", .str "f", .str "g", .str "h"]
theorem menu_kd : ∀ d ∈ menuD, Kd d := by
  intro d hd
  simp only [menuD, List.mem_cons, List.not_mem_nil, or_false] at hd
  rcases hd with rfl | rfl | rfl | rfl | rfl | rfl | rfl | rfl | rfl | rfl | rfl | rfl <;> exact kd_of (by decide +kernel)
theorem eight_kd : ∀ d ∈ eightD, Kd d := by
  intro d hd
  simp only [eightD, List.mem_cons, List.not_mem_nil, or_false] at hd
  rcases hd with rfl | rfl | rfl | rfl | rfl | rfl | rfl | rfl <;> exact kd_of (by decide +kernel)
theorem sz {n : Nat} (h : n ≤ 100000) : n ≤ sizeLine := by rw [sizeLine_eq]; omega
/-- letter by index -/
theorem letter_ix (k : Nat) (h : k < 26) : ∃ x : Str, gIx (.str "abcdefghijklmnopqrstuvwxyz") (.int (k : Int)) = some (.sh (.str x)) ∧ asc x = true ∧ x.cps.size = 1 := by
  have key : ∀ k : Fin 26, ∃ c : Nat, atI (Str.ofString "abcdefghijklmnopqrstuvwxyz").cps.toList ((k.1 : Nat) : Int) = some c ∧ c < 128 := by
    intro k
    have : ∀ k : Fin 26, (match atI (Str.ofString "abcdefghijklmnopqrstuvwxyz").cps.toList ((k.1 : Nat) : Int) with | some c => decide (c < 128) | none => false) = true := by decide +kernel
    have := this k
    cases hc : atI (Str.ofString "abcdefghijklmnopqrstuvwxyz").cps.toList ((k.1 : Nat) : Int) with
    | none => rw [hc] at this; cases this
    | some c => rw [hc] at this; exact ⟨c, rfl, of_decide_eq_true this⟩
  obtain ⟨c, hc, hlt⟩ := key ⟨k, h⟩
  refine ⟨⟨#[c]⟩, ?_, by simp [asc, hlt], rfl⟩
  have hz : (Str.ofString "abcdefghijklmnopqrstuvwxyz").length ≤ sizeLine := sz (by decide +kernel)
  simp only [gIx, if_pos hz, hc, Option.map_some]
theorem app_kd {x y : Str} {a b : Nat} (hx : asc x = true) (hy : asc y = true) (lx : x.cps.size ≤ a) (ly : y.cps.size ≤ b) (h : a + b ≤ 8) : gAdd (.str x) (.str y) = some (.sh (.str (x ++ y))) ∧ Kd (.str (x ++ y)) := by
  have e : (x ++ y).cps = x.cps ++ y.cps := rfl
  have l1 : x.length = x.cps.size := rfl
  have l2 : y.length = y.cps.size := rfl
  constructor
  · simp only [gAdd]
    rw [if_pos (sz (by omega))]
  · refine ⟨_, rfl, ?_, ?_⟩
    · simp only [asc, e, Array.toList_append, List.all_append, Bool.and_eq_true] at hx hy ⊢
      exact ⟨hx, hy⟩
    · rw [e, Array.size_append]; omega
theorem stem_ix (r : Nat) (h : r < 3) : ∃ x : Str, gSl none (some (r : Int)) (.str "xq") = some (.sh (.str x)) ∧ asc x = true ∧ x.cps.size ≤ 2 := by
  have hz : (Str.ofString "xq").length ≤ sizeLine := sz (by decide +kernel)
  refine ⟨cutS "xq" none (some (r : Int)), ?_, ?_⟩
  · simp only [gSl, if_pos hz]
  · match r, h with
    | 0, _ => exact ⟨by decide +kernel, by decide +kernel⟩
    | 1, _ => exact ⟨by decide +kernel, by decide +kernel⟩
    | 2, _ => exact ⟨by decide +kernel, by decide +kernel⟩
theorem eq_nat (a b : Nat) : gEq (.int (a : Int)) (.int (b : Int)) = some (.sh (.bool (decide (a = b)))) := by
  simp only [gEq, okD_int, eqv_int, Bool.and_self, if_true]
  congr 3
  by_cases h : a = b
  · subst h; simp
  · have : ((a : Int) == (b : Int)) = false := by rw [beq_eq_false_iff_ne]; omega
    simp [this, h]
theorem rgN {n : Nat} (h : n ≤ 1000) : (-(2 ^ 62) : Int) ≤ (n : Int) ∧ (n : Int) < 2 ^ 62 := by
  refine ⟨Int.le_trans (b := 0) (by decide) (Int.natCast_nonneg n), Int.lt_of_le_of_lt (b := 1000) ?_ (by decide)⟩
  omega
theorem iRange_ok {m : EM} {ρ : Mr.Env} {B B1 : Bag} {n : Nat} (h : m ρ B = .ok (.sh (.int (n : Int))) B1) (hn : n ≤ 1000) : iRange (aCons m aNil) ρ B = .ok (rangeD 0 (n : Int)) B1 := by
  have rg := rgN hn
  unfold iRange aCons aNil
  rw [h, bind_ok, bind_ok, bind_ok]
  show (if (-(2 ^ 62) : Int) ≤ (n : Int) ∧ (n : Int) < 2 ^ 62 then Out.ok (rangeD 0 (n : Int)) B1 else .bad) = _
  exact if_pos rg
theorem elem_ok (n way turn : Nat) {stem : Str} (as : asc stem = true) (ls : stem.cps.size ≤ 2) (d : PyData) (hd : d ∈ rangeD 0 (n : Int)) (B : Bag) (ok : BagOk B) :
    ∃ ρ1 e B2 x, fName 6 d [some .bg, some (.sh (.int (n : Int))), some (.sh (.list menuD)), some (.sh (.str stem)), some (.sh (.int (way : Int))), some (.sh (.int (turn : Int))), none] = some ρ1 ∧
      eBin gAdd (eVar 3) (eBin gIx (eC (.str "abcdefghijklmnopqrstuvwxyz")) (eBin gMod (eCB gInt (aCons (eBin gAdd (eBin gMul (eC (.int 2)) (eVar 5)) (eBin gMul (eC (.int 3)) (eVar 6))) aNil)) (eC (.int 26)))) ρ1 B = .ok e B2 ∧ e.data = some x ∧ Kd x ∧ BagOk B2 := by
  simp only [rangeD, List.mem_map, List.mem_range] at hd
  obtain ⟨k, hk, rfl⟩ := hd
  have ek : (0 : Int) + (k : Int) = (k : Int) := by omega
  rw [ek]
  have lt : (2 * turn + 3 * k) % 26 < 26 := Nat.mod_lt _ (by decide)
  obtain ⟨x, hx, ax, lx⟩ := letter_ix ((2 * turn + 3 * k) % 26) lt
  obtain ⟨h1, h2⟩ := app_kd as ax ls (Nat.le_of_eq lx) (by decide)
  refine ⟨[some .bg, some (.sh (.int (n : Int))), some (.sh (.list menuD)), some (.sh (.str stem)), some (.sh (.int (way : Int))), some (.sh (.int (turn : Int))), some (.sh (.int (k : Int)))], .sh (.str (stem ++ x)), B, _, rfl, ?_, rfl, h2, ok⟩
  have m1 : gMul (.int 2) (.int (turn : Int)) = some (.sh (.int (2 * (turn : Int)))) := by simp [gMul]
  have m2 : gMul (.int 3) (.int (k : Int)) = some (.sh (.int (3 * (k : Int)))) := by simp [gMul]
  have m3 : gMod (.int (2 * (turn : Int) + 3 * (k : Int))) (.int 26) = some (.sh (.int (((2 * turn + 3 * k) % 26 : Nat) : Int))) := by
    simp [gMod]
  refine bin_ok (B1 := B) (B2 := B) (e1 := .sh (.str stem)) (e2 := .sh (.str x)) rfl ?_ rfl rfl h1
  refine bin_ok (B1 := B) (B2 := B) (e1 := .sh (.str "abcdefghijklmnopqrstuvwxyz")) (e2 := .sh (.int (((2 * turn + 3 * k) % 26 : Nat) : Int))) rfl ?_ rfl rfl hx
  refine bin_ok (B1 := B) (B2 := B) (e1 := .sh (.int (2 * (turn : Int) + 3 * (k : Int)))) (e2 := .sh (.int 26)) ?_ rfl rfl rfl m3
  simp only [eCB, aCons, eBin, eC, eVar, aNil, bind_ok, List.getElem?_cons_zero, List.getElem?_cons_succ, EV.data, Option.bind_some, m1, m2, liftO_some, gAdd, EV.share, dataAll, Option.map_some, gInt]
theorem kinds_yl {B : Bag} (ok : BagOk B) (n : Nat) (hn : n ≤ 8) : ∃ ks e B', m_L_kinds [.bg, .sh (.int (n : Int))] B = .ok e B' ∧ e.share = .sh (.list ks) ∧ BagOk B' ∧ ks.length = n ∧ ∀ d ∈ ks, Kd d := by
  have e0 : ([EV.bg, EV.sh (.int (n : Int))].map some ++ List.replicate (7 - [EV.bg, EV.sh (.int (n : Int))].length) none) = [some .bg, some (.sh (.int (n : Int))), none, none, none, none, none] := rfl
  obtain ⟨way, B1, t1, ok1, hw⟩ := eTake ok (ρ := [some .bg, some (.sh (.int (n : Int))), none, none, none, none, none]) (j := 0) rfl 4 (by decide) (by decide)
  obtain ⟨turn, B2, t2, ok2, ht⟩ := eTake ok1 (ρ := [some .bg, some (.sh (.int (n : Int))), none, none, none, none, none]) (j := 0) rfl 12 (by decide) (by decide)
  unfold m_L_kinds mfn
  rw [e0]
  have s1 : sUnp (fTup 2 (fCons (fName 4) (fCons (fName 5) fNil))) (eTup (aCons (eCall 2 m_L_take (aCons (eVar 0) (aCons (eC (.int 4)) aNil))) (aCons (eCall 2 m_L_take (aCons (eVar 0) (aCons (eC (.int 12)) aNil))) aNil))) [some .bg, some (.sh (.int (n : Int))), none, none, none, none, none] B
      = .ok (.nx [some .bg, some (.sh (.int (n : Int))), none, none, some (.sh (.int (way : Int))), some (.sh (.int (turn : Int))), none]) B2 := by
    have two : (2 : Nat) ≤ sizeLine := sz (by decide)
    simp only [sUnp, eTup]
    rw [show aCons (eCall 2 m_L_take (aCons (eVar 0) (aCons (eC (.int 4)) aNil))) (aCons (eCall 2 m_L_take (aCons (eVar 0) (aCons (eC (.int 12)) aNil))) aNil) [some .bg, some (.sh (.int (n : Int))), none, none, none, none, none] B = .ok [.sh (.int (way : Int)), .sh (.int (turn : Int))] B2 by
      rw [aCons, show eCall 2 m_L_take (aCons (eVar 0) (aCons (eC (.int 4)) aNil)) [some .bg, some (.sh (.int (n : Int))), none, none, none, none, none] B = _ from t1, bind_ok, aCons, show eCall 2 m_L_take (aCons (eVar 0) (aCons (eC (.int 12)) aNil)) [some .bg, some (.sh (.int (n : Int))), none, none, none, none, none] B1 = _ from t2, bind_ok]
      rfl]
    simp only [bind_ok, dataAll, Option.map_some, List.length_cons, List.length_nil, if_pos two]
    rfl
  have s2 : ∀ ρ5 B5, sSetS 2 (eLst (aCons (eC (.str "a")) (aCons (eC (.str "aa")) (aCons (eC (.str "b")) (aCons (eC (.str "ab")) (aCons (eC (.str "ba")) (aCons (eC (.str "z")) (aCons (eC (.str "zz")) (aCons (eC (.str "hook")) (aCons (eC (.str "end")) (aCons (eC (.str "zzzzzzzz")) (aCons (eC (.str "true")) (aCons (eC (.str "mm")) aNil))))))))))))) [some .bg, some (.sh (.int (n : Int))), none, none, ρ5, some (.sh (.int (turn : Int))), none] B5
      = .ok (.nx [some .bg, some (.sh (.int (n : Int))), some (.sh (.list menuD)), none, ρ5, some (.sh (.int (turn : Int))), none]) B5 := by
    intro ρ5 B5
    have two : (12 : Nat) ≤ sizeLine := sz (by decide)
    simp only [sSetS, eLst, aCons, eC, aNil, bind_ok, EV.share, dataAll, Option.map_some, List.length_cons, List.length_nil, if_pos two]
    rfl
  rw [seq_nx s1, seq_nx (s2 _ _)]
  generalize hρ : [some EV.bg, some (EV.sh (.int (n : Int))), some (EV.sh (.list menuD)), none, some (EV.sh (.int (way : Int))), some (EV.sh (.int (turn : Int))), none] = ρ
  have v0 : ρ[0]? = some (some EV.bg) := by rw [← hρ]; rfl
  have v1 : eVar 1 ρ B2 = .ok (.sh (.int (n : Int))) B2 := by rw [← hρ]; rfl
  have v2 : eVar 2 ρ B2 = .ok (.sh (.list menuD)) B2 := by rw [← hρ]; rfl
  have v4 : eVar 4 ρ B2 = .ok (.sh (.int (way : Int))) B2 := by rw [← hρ]; rfl
  have v5 : eVar 5 ρ B2 = .ok (.sh (.int (turn : Int))) B2 := by rw [← hρ]; rfl
  have c0 : ∀ k : Nat, tBool (eBin gEq (eVar 4) (eC (.int (k : Int)))) ρ B2 = .ok (decide (way = k)) B2 := fun k => boolT (bin_ok v4 (show eC (.int (k : Int)) ρ B2 = .ok (.sh (.int (k : Int))) B2 from rfl) rfl rfl (eq_nat way k))
  by_cases w0 : way = 0
  · have c : tBool (eBin gEq (eVar 4) (eC (.int 0))) ρ B2 = .ok (decide (way = 0)) B2 := c0 0
    rw [decide_eq_true w0] at c
    have l24 : (menuD ++ menuD).length = 24 := rfl
    have a1 : gAdd (.list menuD) (.list menuD) = some (.ow (.list (menuD ++ menuD))) := by
      simp only [gAdd]
      rw [if_pos (sz (by decide))]
    have sl : eSl (eBin gAdd (eVar 2) (eVar 2)) (oSome (eVar 5)) (oSome (eBin gAdd (eVar 5) (eVar 1))) ρ B2 = .ok (.ow (.list (cutL (menuD ++ menuD) (some (turn : Int)) (some ((turn + n : Nat) : Int))))) B2 := by
      have x1 := bin_ok (g := gAdd) v2 v2 rfl rfl a1
      have x2 : eBin gAdd (eVar 5) (eVar 1) ρ B2 = .ok (.sh (.int ((turn : Int) + (n : Int)))) B2 := bin_ok v5 v1 rfl rfl rfl
      unfold eSl oSome
      rw [x1, bind_ok, v5, bind_ok]
      show (Out.ok (some (turn : Int)) B2).bind _ = _
      rw [bind_ok, x2, bind_ok]
      show (Out.ok (some ((turn : Int) + (n : Int))) B2).bind _ = _
      rw [bind_ok]
      rfl
    have mem : ∀ d ∈ cutL (menuD ++ menuD) (some (turn : Int)) (some ((turn + n : Nat) : Int)), Kd d := by
      intro d hd
      rw [cutL_nat] at hd
      have := List.mem_of_mem_drop (List.mem_of_mem_take hd)
      rcases List.mem_append.mp this with h | h <;> exact menu_kd d h
    have len : (cutL (menuD ++ menuD) (some (turn : Int)) (some ((turn + n : Nat) : Int))).length = n := by
      rw [cutL_nat, List.length_take, List.length_drop, l24]
      omega
    obtain ⟨es, he, hl, hk⟩ := sorted_strs mem (sz (by rw [len]; omega))
    have rt : eCB gSorted (aCons (eSl (eBin gAdd (eVar 2) (eVar 2)) (oSome (eVar 5)) (oSome (eBin gAdd (eVar 5) (eVar 1)))) aNil) ρ B2 = .ok (.ow (.list es)) B2 := by
      simp only [eCB, aCons, sl, aNil, bind_ok, EV.share, dataAll, Option.map_some, Option.bind_some, he, liftO_some]
    refine ⟨es, .ow (.list es), B2, ?_, rfl, ok2, by rw [hl, len], hk⟩
    rw [seq_rt (by rw [if_t c]; exact ret_ok rt)]
  · have cF : tBool (eBin gEq (eVar 4) (eC (.int 0))) ρ B2 = .ok (decide (way = 0)) B2 := c0 0
    rw [decide_eq_false w0] at cF
    rw [seq_nx (by rw [if_f cF]; rfl)]
    by_cases w1 : way = 1
    · have c : tBool (eBin gEq (eVar 4) (eC (.int 1))) ρ B2 = .ok (decide (way = 1)) B2 := c0 1
      rw [decide_eq_true w1] at c
      have sl : eSl (eLst (aCons (eC (.str "a")) (aCons (eC (.str "b")) (aCons (eC (.str "c")) (aCons (eC (.str "d")) (aCons (eC (.str "e")) (aCons (eC (.str "f")) (aCons (eC (.str "g")) (aCons (eC (.str "h")) aNil))))))))) oNone (oSome (eVar 1)) ρ B2 = .ok (.ow (.list (cutL eightD none (some (n : Int))))) B2 := by
        have x1 : eLst (aCons (eC (.str "a")) (aCons (eC (.str "b")) (aCons (eC (.str "c")) (aCons (eC (.str "d")) (aCons (eC (.str "e")) (aCons (eC (.str "f")) (aCons (eC (.str "g")) (aCons (eC (.str "h")) aNil)))))))) ρ B2 = .ok (.ow (.list eightD)) B2 := by
          have two : (8 : Nat) ≤ sizeLine := sz (by decide)
          simp only [eLst, aCons, eC, aNil, bind_ok, EV.share, dataAll, Option.map_some, List.length_cons, List.length_nil, if_pos two]
          rfl
        unfold eSl oSome oNone
        rw [x1, bind_ok, bind_ok, v1, bind_ok]
        rfl
      refine ⟨cutL eightD none (some (n : Int)), .ow (.list (cutL eightD none (some (n : Int)))), B2, ?_, rfl, ok2, ?_, fun d hd => ?_⟩
      · rw [seq_rt (by rw [if_t c]; exact ret_ok sl)]
      · rw [cutL_to, List.length_take]
        show min (min n 8) 8 = n
        omega
      · rw [cutL_to] at hd
        exact eight_kd d (List.mem_of_mem_take hd)
    · have cF1 : tBool (eBin gEq (eVar 4) (eC (.int 1))) ρ B2 = .ok (decide (way = 1)) B2 := c0 1
      rw [decide_eq_false w1] at cF1
      rw [seq_nx (by rw [if_f cF1]; rfl)]
      obtain ⟨r, B3, t3, ok3, hr⟩ := eTake ok2 (ρ := ρ) (j := 0) v0 3 (by decide) (by decide)
      obtain ⟨stem, hs, as, ls⟩ := stem_ix r hr
      have s3 : sSetS 3 (eSl (eC (.str "xq")) oNone (oSome (eCall 2 m_L_take (aCons (eVar 0) (aCons (eC (.int 3)) aNil))))) ρ B2 = .ok (.nx (ρ.set 3 (some (.sh (.str stem))))) B3 := by
        exact setS_ok (e := .sh (.str stem)) (sl_ok (d := .str "xq") (e := .sh (.str "xq")) rfl rfl (oSome_ok t3) rfl hs) (by rw [← hρ]; simp)
      rw [seq_nx s3, ← hρ]
      obtain ⟨xs, B4, ec, ok4, lc, pc⟩ := compL_all (f := fName 6) (me := eBin gAdd (eVar 3) (eBin gIx (eC (.str "abcdefghijklmnopqrstuvwxyz")) (eBin gMod (eCB gInt (aCons (eBin gAdd (eBin gMul (eC (.int 2)) (eVar 5)) (eBin gMul (eC (.int 3)) (eVar 6))) aNil)) (eC (.int 26))))) Kd (rangeD 0 (n : Int))
        [some .bg, some (.sh (.int (n : Int))), some (.sh (.list menuD)), some (.sh (.str stem)), some (.sh (.int (way : Int))), some (.sh (.int (turn : Int))), none] [] B3 ok3 (by simp [rangeD]; exact sz (by omega)) (fun d hd B ok => elem_ok n way turn as ls d hd B ok)
      simp only [List.nil_append] at ec
      have lx : xs.length = n := by rw [lc]; simp [rangeD]
      obtain ⟨es, he, hl, hk⟩ := sorted_strs pc (sz (by omega))
      refine ⟨es, .ow (.list es), B4, ?_, rfl, ok4, by omega, hk⟩
      have cm : eComp [6] (iRange (aCons (eVar 1) aNil)) (fName 6) tYesM (eBin gAdd (eVar 3) (eBin gIx (eC (.str "abcdefghijklmnopqrstuvwxyz")) (eBin gMod (eCB gInt (aCons (eBin gAdd (eBin gMul (eC (.int 2)) (eVar 5)) (eBin gMul (eC (.int 3)) (eVar 6))) aNil)) (eC (.int 26)))))
          ([some EV.bg, some (EV.sh (.int (n : Int))), some (EV.sh (.list menuD)), none, some (EV.sh (.int (way : Int))), some (EV.sh (.int (turn : Int))), none].set 3 (some (.sh (.str stem)))) B3 = .ok (.ow (.list xs)) B4 := by
        exact comp_ok (iRange_ok (n := n) (show eVar 1 _ B3 = .ok (.sh (.int (n : Int))) B3 from rfl) (by omega)) rfl ec
      rw [ret_ok (cb1_ok cm rfl he)]
end K14
namespace K14
open PySem PySem.Spec PyProof.Rows L2 Mr
/-! ### odd values -/
def deepD : PyData := .list [.list [.list [.list [.list [.list [.list [.list [.list [.list []]]]]]]]]]
def nonesD : PyData := .list (List.replicate (900 : Int).toNat [PyData.none]).flatten
def oddD : List PyData := [.none, .bool true, .bool false, .int 0, .int 1, .int (-1), .int 2, .int (10 ^ (31 : Int).toNat), .str "", .str "a", .str "A", .str "ab", .str "abcdefghi", .str "a b", .str "aaaaaaaa", .tuple [], .list [], .dict []] ++
  [.tuple [.str "a", .str "b", .bool true], .tuple [.str "b", .str "a", .bool true], .tuple [.str "a", .str "b", .int 1], .tuple [.str "a", .str "a", .bool true], .tuple [.tuple [.str "a", .str "b", .bool true], .bool true]] ++
  [.tuple [.tuple [.str "a", .str "b", .bool false], .bool true], .tuple [.tuple [.str "a", .str "a", .bool true], .bool true], .list [.str "a", .str "b", .bool false], nonesD, deepD]
theorem gd_nones : ∀ n : Nat, PyData.leavesShortAll 130 (List.replicate n PyData.none) = true ∧ PyData.showableAll (List.replicate n PyData.none) = true ∧ PyData.bulkAll (List.replicate n PyData.none) = n ∧ PyData.depthAll (List.replicate n PyData.none) = 0
  | 0 => ⟨rfl, rfl, rfl, by simp [PyData.depthAll]⟩
  | n + 1 => by
    obtain ⟨a, b, c, d⟩ := gd_nones n
    simp only [List.replicate_succ, PyData.leavesShortAll, PyData.showableAll, PyData.bulkAll, PyData.depthAll, PyData.leavesShort, PyData.showable, PyData.bulk, PyData.depth, a, b, c, d]
    refine ⟨rfl, rfl, by omega, rfl⟩
theorem flat_nones : ∀ n : Nat, (List.replicate n [PyData.none]).flatten = List.replicate n PyData.none
  | 0 => rfl
  | n + 1 => by simp [List.replicate_succ, flat_nones n]
def gdB (n m : Nat) (d : PyData) : Bool := d.leavesShort 130 && d.showable && decide (d.bulk ≤ n) && decide (d.depth ≤ m)
theorem gd_of {n m : Nat} {d : PyData} (h : gdB n m d = true) : Gd n m d := by
  simp only [gdB, Bool.and_eq_true, decide_eq_true_eq] at h
  exact ⟨h.1.1.1, h.1.1.2, h.1.2, h.2⟩
theorem odd_gd : ∀ d ∈ oddD, Gd 1000 20 d := by
  intro d hd
  simp only [oddD, List.mem_append, List.mem_cons, List.not_mem_nil, or_false] at hd
  rcases hd with (h | h) | h
  · rcases h with rfl | rfl | rfl | rfl | rfl | rfl | rfl | rfl | rfl | rfl | rfl | rfl | rfl | rfl | rfl | rfl | rfl | rfl <;> exact gd_of (by decide +kernel)
  · rcases h with rfl | rfl | rfl | rfl | rfl <;> exact gd_of (by decide +kernel)
  · rcases h with rfl | rfl | rfl | rfl | rfl
    · exact gd_of (by decide +kernel)
    · exact gd_of (by decide +kernel)
    · exact gd_of (by decide +kernel)
    · obtain ⟨a, b, c, e⟩ := gd_nones 900
      have : nonesD = .list (List.replicate 900 PyData.none) := by
        unfold nonesD
        rw [flat_nones]
        rfl
      rw [this]
      refine ⟨?_, ?_, ?_, ?_⟩
      · simp only [PyData.leavesShort]; exact a
      · simp only [PyData.showable]; exact b
      · simp only [PyData.bulk, c]; decide
      · simp only [PyData.depth, e]; decide
    · exact gd_of (by decide +kernel)
theorem odd_yl {B : Bag} (ok : BagOk B) : ∃ d B', m_L_odd_value [.bg] B = .ok (.sh d) B' ∧ BagOk B' ∧ d ∈ oddD := by
  obtain ⟨d, B', e1, ok', h1⟩ := eOne ok (ρ := [some .bg, some (.sh deepD), some (.sh (.int 8)), some (.sh (.list oddD))]) (j := 0) (m := eVar 3) rfl (e := .sh (.list oddD)) rfl rfl (by unfold oddD; simp) (by decide +kernel)
  refine ⟨d, B', ?_, ok', h1⟩
  have pre : m_L_odd_value [.bg] B = (match (sRet (eCall 2 m_L_one (aCons (eVar 0) (aCons (eVar 3) aNil)))) [some .bg, some (.sh deepD), some (.sh (.int 8)), some (.sh (.list oddD))] B with
    | .ok (.rt e) B' => .ok e B'
    | .ok (.nx _) B' => .ok (.sh .none) B'
    | _ => .bad) := by kernel_rfl
  rw [pre, ret_ok e1]
theorem eOdd {B : Bag} (ok : BagOk B) {ρ : Mr.Env} {j : Nat} (hb : ρ[j]? = some (some .bg)) : ∃ d B', eCall 1 m_L_odd_value (aCons (eVar j) aNil) ρ B = .ok (.sh d) B' ∧ BagOk B' ∧ d ∈ oddD := by
  obtain ⟨d, B', e1, ok', h1⟩ := odd_yl ok
  refine ⟨d, B', ?_, ok', h1⟩
  have sb : EV.bg.share = .bg := rfl
  simp only [eCall, aCons, eVar, hb, aNil, bind_ok, sb, List.length_cons, List.length_nil, if_true, e1]
/-! ### numbers -/
theorem nat_small {r n : Nat} (h : r < n) (hn : n ≤ 2 ^ 100) : ((r : Int)).natAbs < 2 ^ 120 := by
  rw [Int.natAbs_natCast]
  exact Nat.lt_of_lt_of_le (Nat.lt_of_lt_of_le h hn) (Nat.pow_le_pow_right (by decide) (by decide))
theorem number_yl {B : Bag} (ok : BagOk B) : ∃ i B', m_L_number [.bg] B = .ok (.sh (.int i)) B' ∧ BagOk B' ∧ Gd 0 0 (.int i) := by
  obtain ⟨way, B1, t1, ok1, hw⟩ := eTake ok (ρ := [some .bg, none]) (j := 0) rfl 8 (by decide) (by decide)
  have s1 : sSetS 1 (eCall 2 m_L_take (aCons (eVar 0) (aCons (eC (.int 8)) aNil))) [some .bg, none] B = .ok (.nx [some .bg, some (.sh (.int (way : Int)))]) B1 := setS_ok t1 (by decide)
  have lt : tBool (eBin gLt (eVar 1) (eC (.int 6))) [some .bg, some (.sh (.int (way : Int)))] B1 = .ok (decide (way < 6)) B1 := by
    refine boolT (bin_ok (e1 := .sh (.int (way : Int))) (e2 := .sh (.int 6)) rfl rfl rfl rfl ?_)
    simp only [gLt, okC_int, lt_intD, if_true]
    congr 3
    by_cases h : way < 6
    · have : (way : Int) < 6 := by omega
      simp [h, this]
    · have : ¬ (way : Int) < 6 := by omega
      simp [h, this]
  by_cases w6 : way < 6
  · rw [decide_eq_true w6] at lt
    have ix : ∀ B, ∃ n : Nat, eBin gIx (eLst (aCons (eC (.int 1)) (aCons (eC (.int 2)) (aCons (eC (.int 3)) (aCons (eC (.int 4)) (aCons (eC (.int 6)) (aCons (eC (.int 12)) aNil))))))) (eVar 1) [some .bg, some (.sh (.int (way : Int)))] B = .ok (.sh (.int (n : Int))) B ∧ 0 < n ∧ n ≤ 12 := by
      intro B
      match way, w6 with
      | 0, _ => exact ⟨1, rfl, by decide, by decide⟩
      | 1, _ => exact ⟨2, rfl, by decide, by decide⟩
      | 2, _ => exact ⟨3, rfl, by decide, by decide⟩
      | 3, _ => exact ⟨4, rfl, by decide, by decide⟩
      | 4, _ => exact ⟨6, rfl, by decide, by decide⟩
      | 5, _ => exact ⟨12, rfl, by decide, by decide⟩
    obtain ⟨n, hn, n0, n12⟩ := ix B1
    obtain ⟨r, B2, t2, ok2, hr⟩ := takeN ok1 n n0 (Nat.lt_of_le_of_lt n12 (by decide))
    have c2 : eCall 2 m_L_take (aCons (eVar 0) (aCons (eBin gIx (eLst (aCons (eC (.int 1)) (aCons (eC (.int 2)) (aCons (eC (.int 3)) (aCons (eC (.int 4)) (aCons (eC (.int 6)) (aCons (eC (.int 12)) aNil))))))) (eVar 1)) aNil)) [some .bg, some (.sh (.int (way : Int)))] B1 = .ok (.sh (.int (r : Int))) B2 := by
      have sb : EV.bg.share = .bg := rfl
      have v0 : eVar 0 [some .bg, some (.sh (.int (way : Int)))] B1 = .ok .bg B1 := rfl
      unfold eCall
      rw [aCons, v0, bind_ok, aCons, hn, bind_ok, aNil, bind_ok, bind_ok, bind_ok]
      exact t2
    refine ⟨1 + (r : Int), B2, ?_, ok2, Gd.int ?_⟩
    · refine fn_rt (ρ := [some .bg, none]) rfl ?_
      rw [seq_nx s1, seq_rt (by rw [if_t lt]; exact ret_ok (bin_ok (e1 := .sh (.int 1)) rfl c2 rfl rfl rfl))]
    · have : (1 + (r : Int)) = ((1 + r : Nat) : Int) := by omega
      rw [this]
      exact nat_small (n := 14) (by omega) (by decide)
  · rw [decide_eq_false w6] at lt
    obtain ⟨r, B2, t2, ok2, hr⟩ := eTake ok1 (ρ := [some .bg, some (.sh (.int (way : Int)))]) (j := 0) rfl 4 (by decide) (by decide)
    obtain ⟨q, B3, t3, ok3, hq⟩ := eTake ok2 (ρ := [some .bg, some (.sh (.int (way : Int)))]) (j := 0) rfl 7 (by decide) (by decide)
    have ix : ∃ n : Nat, gIx (.list [.int (10 ^ (3 : Int).toNat), .int (10 ^ (9 : Int).toNat), .int (10 ^ (17 : Int).toNat), .int (10 ^ (29 : Int).toNat)]) (.int (r : Int)) = some (.sh (.int (n : Int))) ∧ n ≤ 10 ^ 29 := by
      match r, hr with
      | 0, _ => exact ⟨10 ^ 3, rfl, by decide⟩
      | 1, _ => exact ⟨10 ^ 9, rfl, by decide⟩
      | 2, _ => exact ⟨10 ^ 17, rfl, by decide⟩
      | 3, _ => exact ⟨10 ^ 29, rfl, by decide⟩
    obtain ⟨n, hn, n29⟩ := ix
    have l4 : eLst (aCons (eBin gPow (eC (.int 10)) (eC (.int 3))) (aCons (eBin gPow (eC (.int 10)) (eC (.int 9))) (aCons (eBin gPow (eC (.int 10)) (eC (.int 17))) (aCons (eBin gPow (eC (.int 10)) (eC (.int 29))) aNil)))) [some .bg, some (.sh (.int (way : Int)))] B1
        = .ok (.ow (.list [.int (10 ^ (3 : Int).toNat), .int (10 ^ (9 : Int).toNat), .int (10 ^ (17 : Int).toNat), .int (10 ^ (29 : Int).toNat)])) B1 := by kernel_rfl
    refine ⟨(n : Int) + (q : Int), B3, ?_, ok3, Gd.int ?_⟩
    · refine fn_rt (ρ := [some .bg, none]) rfl ?_
      rw [seq_nx s1, seq_nx (by rw [if_f lt]; rfl)]
      exact ret_ok (bin_ok (bin_ok l4 t2 rfl rfl hn) t3 rfl rfl rfl)
    · have : ((n : Int) + (q : Int)) = ((n + q : Nat) : Int) := by omega
      rw [this]
      exact nat_small (n := 10 ^ 29 + 8) (by omega) (by decide)
/-! ### steps -/
def Stp (d : PyData) : Prop := ∃ x y : Str, ∃ t u : Bool, d = .tuple [.tuple [.str x, .str y, .bool t], .bool u] ∧ Kd (.str x) ∧ Kd (.str y)
theorem min_kd {x y : Str} (hx : Kd (.str x)) (hy : Kd (.str y)) : Kd (.str (minS x y)) := by unfold minS; split <;> assumption
theorem max_kd {x y : Str} (hx : Kd (.str x)) (hy : Kd (.str y)) : Kd (.str (maxS x y)) := by unfold maxS; split <;> assumption
theorem step_on_yl {B : Bag} (ok : BagOk B) {x y : Str} (hx : Kd (.str x)) (hy : Kd (.str y)) : ∃ d B', m_L_step_on [.bg, .sh (.str x), .sh (.str y)] B = .ok (.sh d) B' ∧ BagOk B' ∧ Stp d := by
  obtain ⟨way, B1, t1, ok1, hw⟩ := eTake ok (ρ := [some .bg, some (.sh (.str x)), some (.sh (.str y))]) (j := 0) rfl 2 (by decide) (by decide)
  have lt : tBool (eBin gEq (eCall 2 m_L_take (aCons (eVar 0) (aCons (eC (.int 2)) aNil))) (eC (.int 0))) [some .bg, some (.sh (.str x)), some (.sh (.str y))] B = .ok (decide (way = 0)) B1 :=
    boolT (bin_ok t1 (show eC (.int 0) _ B1 = .ok (.sh (.int ((0 : Nat) : Int))) B1 from rfl) rfl rfl (eq_nat way 0))
  have two : (2 : Nat) ≤ sizeLine := sz (by decide)
  have three : (3 : Nat) ≤ sizeLine := sz (by decide)
  by_cases w : way = 0
  · rw [decide_eq_true w] at lt
    refine ⟨.tuple [.tuple [.str x, .str y, .bool false], .bool false], B1, ?_, ok1, x, y, false, false, rfl, hx, hy⟩
    refine fn_rt (ρ := [some .bg, some (.sh (.str x)), some (.sh (.str y))]) rfl ?_
    rw [seq_rt (e := .sh (.tuple [.tuple [.str x, .str y, .bool false], .bool false])) (B1 := B1)]
    rw [if_t lt]
    refine ret_ok ?_
    simp only [eTup, aCons, eVar, eC, aNil, List.getElem?_cons_zero, List.getElem?_cons_succ, bind_ok, EV.share, dataAll, Option.map_some, List.length_cons, List.length_nil, if_pos three, if_pos two]
  · rw [decide_eq_false w] at lt
    refine ⟨.tuple [.tuple [.str (minS x y), .str (maxS x y), .bool true], .bool (decide (y.cps.toList < x.cps.toList))], B1, ?_, ok1, _, _, true, _, rfl, min_kd hx hy, max_kd hx hy⟩
    refine fn_rt (ρ := [some .bg, some (.sh (.str x)), some (.sh (.str y))]) rfl ?_
    rw [seq_nx (by rw [if_f lt]; rfl)]
    refine ret_ok ?_
    simp only [eTup, aCons, eVar, eC, eCB, eBin, gMin, gMax, gLt, okC_str, lt_strD, aNil, List.getElem?_cons_zero, List.getElem?_cons_succ, bind_ok, EV.share, EV.data, dataAll, Option.map_some, Option.bind_some, liftO_some, List.length_cons, List.length_nil, if_pos three, if_pos two, if_true]
end K14
namespace K14
open PySem PySem.Spec PyProof.Rows L2 Mr
/-- a list of such, all together -/
structure La (n m : Nat) (ds : List PyData) : Prop where
  el : ∀ d ∈ ds, d.leavesShort 130 = true ∧ d.showable = true ∧ d.depth ≤ m
  bk : PyData.bulkAll ds ≤ n
theorem La.mono {n m n' m' : Nat} {ds : List PyData} (h : La n m ds) (a : n ≤ n') (b : m ≤ m') : La n' m' ds := ⟨fun d hd => ⟨(h.el d hd).1, (h.el d hd).2.1, Nat.le_trans (h.el d hd).2.2 b⟩, Nat.le_trans h.bk a⟩
theorem all_of : ∀ {ds : List PyData} {m : Nat}, (∀ d ∈ ds, d.leavesShort 130 = true ∧ d.showable = true ∧ d.depth ≤ m) → PyData.leavesShortAll 130 ds = true ∧ PyData.showableAll ds = true ∧ PyData.depthAll ds ≤ m
  | [], _, _ => ⟨by simp [PyData.leavesShortAll], by simp [PyData.showableAll], by simp [PyData.depthAll]⟩
  | d :: ds, m, h => by
    obtain ⟨a1, a2, a3⟩ := all_of fun x hx => h x (List.mem_cons_of_mem _ hx)
    obtain ⟨g1, g2, g3⟩ := h d (List.mem_cons_self ..)
    refine ⟨by simp [PyData.leavesShortAll, g1, a1], by simp [PyData.showableAll, g2, a2], ?_⟩
    simp only [PyData.depthAll]
    omega
theorem of_all : ∀ {ds : List PyData} {m : Nat}, PyData.leavesShortAll 130 ds = true → PyData.showableAll ds = true → PyData.depthAll ds ≤ m → ∀ d ∈ ds, d.leavesShort 130 = true ∧ d.showable = true ∧ d.depth ≤ m
  | [], _, _, _, _, d, hd => by cases hd
  | x :: ds, m, h1, h2, h3, d, hd => by
    simp only [PyData.leavesShortAll, PyData.showableAll, PyData.depthAll, Bool.and_eq_true] at h1 h2 h3
    rcases List.mem_cons.mp hd with rfl | hd
    · exact ⟨h1.1, h2.1, by omega⟩
    · exact of_all h1.2 h2.2 (by omega) d hd
theorem La.list {n m : Nat} {ds : List PyData} (h : La n m ds) : Gd n (m + 1) (.list ds) := by
  obtain ⟨a1, a2, a3⟩ := all_of h.el
  exact ⟨by simp only [PyData.leavesShort]; exact a1, by simp only [PyData.showable]; exact a2, by simp only [PyData.bulk]; exact h.bk, by simp only [PyData.depth]; omega⟩
theorem La.tuple {n m : Nat} {ds : List PyData} (h : La n m ds) : Gd n (m + 1) (.tuple ds) := by
  obtain ⟨a1, a2, a3⟩ := all_of h.el
  exact ⟨by simp only [PyData.leavesShort]; exact a1, by simp only [PyData.showable]; exact a2, by simp only [PyData.bulk]; exact h.bk, by simp only [PyData.depth]; omega⟩
theorem La.of_list {n m : Nat} {ds : List PyData} (g : Gd n (m + 1) (.list ds)) : La n m ds := by
  obtain ⟨h1, h2, h3, h4⟩ := g
  simp only [PyData.leavesShort, PyData.showable, PyData.bulk, PyData.depth] at h1 h2 h3 h4
  exact ⟨of_all h1 h2 (by omega), h3⟩
theorem La.of_tuple {n m : Nat} {ds : List PyData} (g : Gd n (m + 1) (.tuple ds)) : La n m ds := by
  obtain ⟨h1, h2, h3, h4⟩ := g
  simp only [PyData.leavesShort, PyData.showable, PyData.bulk, PyData.depth] at h1 h2 h3 h4
  exact ⟨of_all h1 h2 (by omega), h3⟩
theorem bulk_mem : ∀ {ds : List PyData} {d : PyData}, d ∈ ds → d.bulk ≤ PyData.bulkAll ds
  | x :: ds, d, h => by
    simp only [PyData.bulkAll]
    rcases List.mem_cons.mp h with rfl | h
    · omega
    · have := bulk_mem h; omega
theorem La.mem {n m : Nat} {ds : List PyData} (h : La n m ds) {d : PyData} (hd : d ∈ ds) : Gd n m d := ⟨(h.el d hd).1, (h.el d hd).2.1, Nat.le_trans (bulk_mem hd) h.bk, (h.el d hd).2.2⟩
theorem bulk_append : ∀ (xs ys : List PyData), PyData.bulkAll (xs ++ ys) = PyData.bulkAll xs + PyData.bulkAll ys
  | [], ys => by simp [PyData.bulkAll]
  | x :: xs, ys => by simp only [List.cons_append, PyData.bulkAll, bulk_append xs ys]; omega
theorem bulk_set : ∀ (xs : List PyData) (j : Nat) (d : PyData), PyData.bulkAll (xs.set j d) ≤ PyData.bulkAll xs + d.bulk
  | [], _, _ => by simp [PyData.bulkAll]
  | x :: xs, 0, d => by simp only [List.set_cons_zero, PyData.bulkAll]; omega
  | x :: xs, j + 1, d => by have := bulk_set xs j d; simp only [List.set_cons_succ, PyData.bulkAll]; omega
theorem bulk_erase : ∀ (xs : List PyData) (j : Nat), PyData.bulkAll (xs.eraseIdx j) ≤ PyData.bulkAll xs
  | [], _ => by simp [PyData.bulkAll]
  | x :: xs, 0 => by simp only [List.eraseIdx_cons_zero, PyData.bulkAll]; omega
  | x :: xs, j + 1 => by have := bulk_erase xs j; simp only [List.eraseIdx_cons_succ, PyData.bulkAll]; omega
theorem bulk_take : ∀ (xs : List PyData) (j : Nat), PyData.bulkAll (xs.take j) + PyData.bulkAll (xs.drop j) = PyData.bulkAll xs
  | [], j => by simp [PyData.bulkAll]
  | x :: xs, 0 => by simp [PyData.bulkAll]
  | x :: xs, j + 1 => by have := bulk_take xs j; simp only [List.take_succ_cons, List.drop_succ_cons, PyData.bulkAll]; omega
/-- what a bent value is bounded by -/
def Bn (self : FM) (k : Nat) : Prop := ∀ (B : Bag) (d : PyData), BagOk B → Gd 1500 k d → ∃ d' e B', self [.bg, .sh d] B = .ok e B' ∧ e.share = .sh d' ∧ BagOk B' ∧ Gd (1600 + 1501 * k) (21 + k) d'
abbrev rB (d : PyData) (way : Nat) (f at_ : Option EV) : Mr.Env := [some .bg, some (.sh d), some (.sh (.int (way : Int))), f, at_]
/-- the end of _law_bent -/
theorem bent_end {B : Bag} (ok : BagOk B) {d : PyData} (hd : isLT d = true) {way at_ : Nat} {ds : List PyData} :
    ∃ d' e B', (sSeq (sIf (tBool (eBin gEq (eCall 2 m_L_take (aCons (eVar 0) (aCons (eC (.int 6)) aNil))) (eC (.int 0))))
  (sFrz [3] (sRet (eIf (tVal (eUn (gIsi "list") (eVar 1))) (eCB gTuple (aCons (eVar 3) aNil)) (eVar 3)))) sSkip)
  (sFrz [3] (sRet (eIf (tVal (eUn (gIsi "list") (eVar 1))) (eVar 3) (eCB gTuple (aCons (eVar 3) aNil)))))) (rB d way (some (.ow (.list ds))) (some (.sh (.int (at_ : Int))))) B = .ok (.rt e) B' ∧ e.share = .sh d' ∧ BagOk B' ∧ (d' = .list ds ∨ d' = .tuple ds) := by
  obtain ⟨r, B1, t1, ok1, hr⟩ := eTake ok (ρ := rB d way (some (.ow (.list ds))) (some (.sh (.int (at_ : Int))))) (j := 0) rfl 6 (by decide) (by decide)
  have c : tBool (eBin gEq (eCall 2 m_L_take (aCons (eVar 0) (aCons (eC (.int 6)) aNil))) (eC (.int 0))) (rB d way (some (.ow (.list ds))) (some (.sh (.int (at_ : Int))))) B = .ok (decide (r = 0)) B1 :=
    boolT (bin_ok t1 (show eC (.int 0) _ B1 = .ok (.sh (.int ((0 : Nat) : Int))) B1 from rfl) rfl rfl (eq_nat r 0))
  have key : ∀ b : Bool, ∃ d' e, sFrz [3] (sRet (if b then eIf (tVal (eUn (gIsi "list") (eVar 1))) (eCB gTuple (aCons (eVar 3) aNil)) (eVar 3) else eIf (tVal (eUn (gIsi "list") (eVar 1))) (eVar 3) (eCB gTuple (aCons (eVar 3) aNil)))) (rB d way (some (.ow (.list ds))) (some (.sh (.int (at_ : Int))))) B1 = .ok (.rt e) B1 ∧ e.share = .sh d' ∧ (d' = .list ds ∨ d' = .tuple ds) := by
    intro b
    cases d with
    | list xs => cases b with
      | true => exact ⟨.tuple ds, .sh (.tuple ds), rfl, rfl, .inr rfl⟩
      | false => exact ⟨.list ds, .sh (.list ds), rfl, rfl, .inl rfl⟩
    | tuple xs => cases b with
      | true => exact ⟨.list ds, .sh (.list ds), rfl, rfl, .inl rfl⟩
      | false => exact ⟨.tuple ds, .sh (.tuple ds), rfl, rfl, .inr rfl⟩
    | _ => cases hd
  by_cases h : r = 0
  · rw [decide_eq_true h] at c
    obtain ⟨d', e, h1, h2, h3⟩ := key true
    refine ⟨d', e, B1, ?_, h2, ok1, h3⟩
    rw [seq_rt (by rw [if_t c]; exact h1)]
  · rw [decide_eq_false h] at c
    obtain ⟨d', e, h1, h2, h3⟩ := key false
    refine ⟨d', e, B1, ?_, h2, ok1, h3⟩
    rw [seq_nx (by rw [if_f c]; rfl)]
    exact h1
theorem way_test {d : PyData} {way : Nat} {f a : Option EV} {B : Bag} (k : Nat) : tBool (eBin gEq (eVar 2) (eC (.int (k : Int)))) (rB d way f a) B = .ok (decide (way = k)) B :=
  boolT (bin_ok (e1 := .sh (.int (way : Int))) rfl (show eC (.int (k : Int)) _ B = .ok (.sh (.int (k : Int))) B from rfl) rfl rfl (eq_nat way k))
theorem way_lt5 {d : PyData} {way : Nat} {f a : Option EV} {B : Bag} : tBool (eBin gLt (eVar 2) (eC (.int 5))) (rB d way f a) B = .ok (decide (way < 5)) B := by
  refine boolT (bin_ok (e1 := .sh (.int (way : Int))) (e2 := .sh (.int 5)) rfl rfl rfl rfl ?_)
  simp only [gLt, okC_int, lt_intD, if_true]
  congr 3
  by_cases h : way < 5
  · have : (way : Int) < 5 := by omega
    simp [h, this]
  · have : ¬ (way : Int) < 5 := by omega
    simp [h, this]
theorem La.small {n m : Nat} {ds : List PyData} (h : La n m ds) : ds.length ≤ n := by
  have : ∀ xs : List PyData, xs.length ≤ PyData.bulkAll xs := by
    intro xs
    induction xs with
    | nil => simp
    | cons x xs ih => simp only [List.length_cons, PyData.bulkAll]; omega
  exact Nat.le_trans (this ds) h.bk
end K14
namespace K14
open PySem PySem.Spec PyProof.Rows L2 Mr
/-- the middle of _law_bent: what becomes of the list -/
theorem bent_mid {self : FM} {j : Nat} (hs : Bn self j) {B : Bag} (ok : BagOk B) {d : PyData} (hd : isLT d = true) {way at_ : Nat} {ds : List PyData} (la : La 1500 j ds) (hat : at_ < ds.length) (hw : way < 8) :
    ∃ d' e B', (sSeq (sIf (tBool (eBin gLt (eVar 2) (eC (.int 5))))
  (sStO 3 (eVar 4) (eCall 2 self (aCons (eVar 0) (aCons (eIxV 3 (eVar 4)) aNil)))) sSkip)
  (sSeq (sIf (tBool (eBin gEq (eVar 2) (eC (.int 5))))
  (sInsO 3 (eBin gAdd (eVar 4) (eCall 2 m_L_take (aCons (eVar 0) (aCons (eC (.int 2)) aNil)))) (eCall 1 m_L_odd_value (aCons (eVar 0) aNil))) sSkip)
  (sSeq (sIf (tBool (eBin gEq (eVar 2) (eC (.int 6))))
  (sPopO 3 (eVar 4)) sSkip)
  (sSeq (sIf (tBool (eBin gEq (eVar 2) (eC (.int 7))))
  (sFrz [3] (sSet 3 (eBin gAdd (eVar 3) (eSl (eVar 3) (oSome (eVar 4)) (oSome (eBin gAdd (eVar 4) (eC (.int 1)))))))) sSkip)
  (sSeq (sIf (tBool (eBin gEq (eCall 2 m_L_take (aCons (eVar 0) (aCons (eC (.int 6)) aNil))) (eC (.int 0))))
  (sFrz [3] (sRet (eIf (tVal (eUn (gIsi "list") (eVar 1))) (eCB gTuple (aCons (eVar 3) aNil)) (eVar 3)))) sSkip)
  (sFrz [3] (sRet (eIf (tVal (eUn (gIsi "list") (eVar 1))) (eVar 3) (eCB gTuple (aCons (eVar 3) aNil)))))))))) (rB d way (some (.ow (.list ds))) (some (.sh (.int (at_ : Int))))) B = .ok (.rt e) B' ∧ e.share = .sh d' ∧ BagOk B' ∧ Gd (1600 + 1501 * (j + 1)) (21 + (j + 1)) d' := by
  have t5 : ∀ {f a B}, tBool (eBin gEq (eVar 2) (eC (.int 5))) (rB d way f a) B = .ok (decide (way = 5)) B := way_test 5
  have t6 : ∀ {f a B}, tBool (eBin gEq (eVar 2) (eC (.int 6))) (rB d way f a) B = .ok (decide (way = 6)) B := way_test 6
  have t7 : ∀ {f a B}, tBool (eBin gEq (eVar 2) (eC (.int 7))) (rB d way f a) B = .ok (decide (way = 7)) B := way_test 7
  have fin : ∀ {B' : Bag} {es : List PyData}, BagOk B' → La (1600 + 1501 * (j + 1)) (21 + j) es → ∃ d' e B'', (sSeq (sIf (tBool (eBin gEq (eCall 2 m_L_take (aCons (eVar 0) (aCons (eC (.int 6)) aNil))) (eC (.int 0))))
  (sFrz [3] (sRet (eIf (tVal (eUn (gIsi "list") (eVar 1))) (eCB gTuple (aCons (eVar 3) aNil)) (eVar 3)))) sSkip)
  (sFrz [3] (sRet (eIf (tVal (eUn (gIsi "list") (eVar 1))) (eVar 3) (eCB gTuple (aCons (eVar 3) aNil)))))) (rB d way (some (.ow (.list es))) (some (.sh (.int (at_ : Int))))) B' = .ok (.rt e) B'' ∧ e.share = .sh d' ∧ BagOk B'' ∧ Gd (1600 + 1501 * (j + 1)) (21 + (j + 1)) d' := by
    intro B' es ok' la'
    obtain ⟨d', e, B'', h1, h2, h3, h4⟩ := bent_end ok' hd (way := way) (at_ := at_) (ds := es)
    refine ⟨d', e, B'', h1, h2, h3, ?_⟩
    rcases h4 with rfl | rfl
    · exact la'.list
    · exact la'.tuple
  have len := la.small
  obtain ⟨x, hx, hm, hx2⟩ := atI_at (xs := ds) (i := (at_ : Int)) (by omega) (by omega)
  have ixj : ixN ds.length (at_ : Int) = some at_ := by
    unfold ixN
    rw [if_pos (by omega), if_pos (by omega)]
    simp
  by_cases w5 : way < 5
  · obtain ⟨d', e, B', h1, h2, h3, h4⟩ := hs B x ok (la.mem hm)
    have c5 : tBool (eBin gLt (eVar 2) (eC (.int 5))) (rB d way (some (.ow (.list ds))) (some (.sh (.int (at_ : Int))))) B = .ok true B := by rw [way_lt5, decide_eq_true w5]
    have ixv : eIxV 3 (eVar 4) (rB d way (some (.ow (.list ds))) (some (.sh (.int (at_ : Int))))) B = .ok (.sh x) B := by
      show liftO ((atI ds (at_ : Int)).map EV.sh) B = _
      rw [hx]; rfl
    have cl : eCall 2 self (aCons (eVar 0) (aCons (eIxV 3 (eVar 4)) aNil)) (rB d way (some (.ow (.list ds))) (some (.sh (.int (at_ : Int))))) B = .ok e B' := by
      unfold eCall
      rw [aCons, show eVar 0 (rB d way (some (.ow (.list ds))) (some (.sh (.int (at_ : Int))))) B = .ok .bg B from rfl, bind_ok, aCons, ixv, bind_ok, aNil, bind_ok, bind_ok, bind_ok]
      exact h1
    have ed : e.data = some d' := by cases e <;> cases h2 <;> rfl
    have st : sStO 3 (eVar 4) (eCall 2 self (aCons (eVar 0) (aCons (eIxV 3 (eVar 4)) aNil))) (rB d way (some (.ow (.list ds))) (some (.sh (.int (at_ : Int))))) B = .ok (.nx (rB d way (some (.ow (.list (ds.set at_ d')))) (some (.sh (.int (at_ : Int)))))) B' := by
      unfold sStO
      rw [cl, bind_ok, show eVar 4 (rB d way (some (.ow (.list ds))) (some (.sh (.int (at_ : Int))))) B' = .ok (.sh (.int (at_ : Int))) B' from rfl, bind_ok, ed]
      show (match ixN ds.length (at_ : Int) with | some j => Out.ok (Flow.nx _) B' | none => Out.bad) = _
      rw [ixj]
      rfl
    have n5 : way ≠ 5 := by omega
    have n6 : way ≠ 6 := by omega
    have n7 : way ≠ 7 := by omega
    rw [seq_nx (by rw [if_t c5]; exact st), seq_nx (by rw [if_f (by rw [t5, decide_eq_false n5])]; rfl), seq_nx (by rw [if_f (by rw [t6, decide_eq_false n6])]; rfl), seq_nx (by rw [if_f (by rw [t7, decide_eq_false n7])]; rfl)]
    refine fin h3 ⟨fun y hy => ?_, ?_⟩
    · rcases List.mem_or_eq_of_mem_set hy with h | h
      · have := la.el y h; exact ⟨this.1, this.2.1, by omega⟩
      · rw [h]; exact ⟨h4.lv, h4.sw, h4.dp⟩
    · have := bulk_set ds at_ d'
      have := la.bk
      have := h4.bk
      omega
  · have c5 : tBool (eBin gLt (eVar 2) (eC (.int 5))) (rB d way (some (.ow (.list ds))) (some (.sh (.int (at_ : Int))))) B = .ok false B := by rw [way_lt5, decide_eq_false w5]
    rw [seq_nx (by rw [if_f c5]; rfl)]
    by_cases e5 : way = 5
    · obtain ⟨r, B1, u1, ok1, hr⟩ := eTake ok (ρ := rB d way (some (.ow (.list ds))) (some (.sh (.int (at_ : Int))))) (j := 0) rfl 2 (by decide) (by decide)
      obtain ⟨y, B2, u2, ok2, hy⟩ := eOdd ok1 (ρ := rB d way (some (.ow (.list ds))) (some (.sh (.int (at_ : Int))))) (j := 0) rfl
      have gy := odd_gd y hy
      have a1 : eBin gAdd (eVar 4) (eCall 2 m_L_take (aCons (eVar 0) (aCons (eC (.int 2)) aNil))) (rB d way (some (.ow (.list ds))) (some (.sh (.int (at_ : Int))))) B = .ok (.sh (.int ((at_ : Int) + (r : Int)))) B1 := bin_ok (e1 := .sh (.int (at_ : Int))) rfl u1 rfl rfl rfl
      have hl : ds.length < sizeLine ∧ (0 : Int) ≤ (at_ : Int) + (r : Int) ∧ (at_ : Int) + (r : Int) < 2 ^ 63 := ⟨by rw [sizeLine_eq]; omega, by omega, by omega⟩
      have st : sInsO 3 (eBin gAdd (eVar 4) (eCall 2 m_L_take (aCons (eVar 0) (aCons (eC (.int 2)) aNil)))) (eCall 1 m_L_odd_value (aCons (eVar 0) aNil)) (rB d way (some (.ow (.list ds))) (some (.sh (.int (at_ : Int))))) B = .ok (.nx (rB d way (some (.ow (.list (insD ds ((at_ : Int) + (r : Int)) y)))) (some (.sh (.int (at_ : Int)))))) B2 := by
        unfold sInsO
        rw [a1, bind_ok, u2, bind_ok]
        show (if ds.length < sizeLine ∧ (0 : Int) ≤ (at_ : Int) + (r : Int) ∧ (at_ : Int) + (r : Int) < 2 ^ 63 then Out.ok (Flow.nx _) B2 else Out.bad) = _
        rw [if_pos hl]
        rfl
      have n6 : way ≠ 6 := by omega
      have n7 : way ≠ 7 := by omega
      rw [seq_nx (by rw [if_t (by rw [t5, decide_eq_true e5])]; exact st), seq_nx (by rw [if_f (by rw [t6, decide_eq_false n6])]; rfl), seq_nx (by rw [if_f (by rw [t7, decide_eq_false n7])]; rfl)]
      refine fin ok2 ⟨fun z hz => ?_, ?_⟩
      · unfold insD at hz
        rcases List.mem_append.mp hz with hz | hz
        · rcases List.mem_append.mp hz with hz | hz
          · have := la.el z (List.mem_of_mem_take hz); exact ⟨this.1, this.2.1, by omega⟩
          · rw [List.mem_singleton.mp hz]; exact ⟨gy.lv, gy.sw, by have := gy.dp; omega⟩
        · have := la.el z (List.mem_of_mem_drop hz); exact ⟨this.1, this.2.1, by omega⟩
      · unfold insD
        rw [bulk_append, bulk_append]
        have h1 := bulk_take ds ((at_ : Int) + (r : Int)).toNat
        have h2 := la.bk
        have h3 := gy.bk
        simp only [PyData.bulkAll]
        omega
    · rw [seq_nx (by rw [if_f (by rw [t5, decide_eq_false e5])]; rfl)]
      by_cases e6 : way = 6
      · have hl : (0 : Int) ≤ (at_ : Int) ∧ (at_ : Int) < (ds.length : Int) ∧ (at_ : Int) < 2 ^ 63 := ⟨by omega, by omega, by omega⟩
        have st : sPopO 3 (eVar 4) (rB d way (some (.ow (.list ds))) (some (.sh (.int (at_ : Int))))) B = .ok (.nx (rB d way (some (.ow (.list (ds.eraseIdx at_)))) (some (.sh (.int (at_ : Int)))))) B := by
          unfold sPopO
          rw [show eVar 4 (rB d way (some (.ow (.list ds))) (some (.sh (.int (at_ : Int))))) B = .ok (.sh (.int (at_ : Int))) B from rfl, bind_ok]
          show (if (0 : Int) ≤ (at_ : Int) ∧ (at_ : Int) < (ds.length : Int) ∧ (at_ : Int) < 2 ^ 63 then Out.ok (Flow.nx _) B else Out.bad) = _
          rw [if_pos hl]
          rfl
        have n7 : way ≠ 7 := by omega
        rw [seq_nx (by rw [if_t (by rw [t6, decide_eq_true e6])]; exact st), seq_nx (by rw [if_f (by rw [t7, decide_eq_false n7])]; rfl)]
        refine fin ok ⟨fun z hz => ?_, ?_⟩
        · have := la.el z (List.mem_of_mem_eraseIdx hz); exact ⟨this.1, this.2.1, by omega⟩
        · have h1 := bulk_erase ds at_
          have h2 := la.bk
          omega
      · have e7 : way = 7 := by omega
        rw [seq_nx (by rw [if_f (by rw [t6, decide_eq_false e6])]; rfl)]
        have sl : eSl (eVar 3) (oSome (eVar 4)) (oSome (eBin gAdd (eVar 4) (eC (.int 1)))) (rB d way (some (.sh (.list ds))) (some (.sh (.int (at_ : Int))))) B = .ok (.ow (.list (cutL ds (some (at_ : Int)) (some ((at_ + 1 : Nat) : Int))))) B :=
          sl_ok (e := .sh (.list ds)) rfl (oSome_ok rfl) (oSome_ok (bin_ok (e1 := .sh (.int (at_ : Int))) (e2 := .sh (.int 1)) rfl rfl rfl rfl rfl)) rfl rfl
        have hl2 : (cutL ds (some (at_ : Int)) (some ((at_ + 1 : Nat) : Int))).length ≤ ds.length := by
          rw [cutL_nat, List.length_take, List.length_drop]; omega
        have ga : gAdd (.list ds) (.list (cutL ds (some (at_ : Int)) (some ((at_ + 1 : Nat) : Int)))) = some (.ow (.list (ds ++ cutL ds (some (at_ : Int)) (some ((at_ + 1 : Nat) : Int))))) := by
          simp only [gAdd]
          rw [if_pos (sz (by omega))]
        have st : sFrz [3] (sSet 3 (eBin gAdd (eVar 3) (eSl (eVar 3) (oSome (eVar 4)) (oSome (eBin gAdd (eVar 4) (eC (.int 1))))))) (rB d way (some (.ow (.list ds))) (some (.sh (.int (at_ : Int))))) B = .ok (.nx (rB d way (some (.ow (.list (ds ++ cutL ds (some (at_ : Int)) (some ((at_ + 1 : Nat) : Int)))))) (some (.sh (.int (at_ : Int)))))) B := by
          show sSet 3 (eBin gAdd (eVar 3) (eSl (eVar 3) (oSome (eVar 4)) (oSome (eBin gAdd (eVar 4) (eC (.int 1)))))) (rB d way (some (.sh (.list ds))) (some (.sh (.int (at_ : Int))))) B = _
          unfold sSet
          rw [bin_ok (e1 := .sh (.list ds)) rfl sl rfl rfl ga, bind_ok]
          rfl
        rw [seq_nx (by rw [if_t (by rw [t7, decide_eq_true e7])]; exact st)]
        have cm : ∀ z ∈ cutL ds (some (at_ : Int)) (some ((at_ + 1 : Nat) : Int)), z ∈ ds := by
          intro z hz
          rw [cutL_nat] at hz
          exact List.mem_of_mem_drop (List.mem_of_mem_take hz)
        refine fin ok ⟨fun z hz => ?_, ?_⟩
        · have hz' : z ∈ ds := (List.mem_append.mp hz).elim id (cm z)
          have := la.el z hz'; exact ⟨this.1, this.2.1, by omega⟩
        · rw [bulk_append, cutL_nat]
          have h1 := bulk_take (ds.drop (min at_ ds.length)) (min (at_ + 1) ds.length - min at_ ds.length)
          have h2 := bulk_take ds (min at_ ds.length)
          have h3 := la.bk
          omega
theorem bent_any {self : FM} {k : Nat} (hs : k = 0 ∨ ∃ j, k = j + 1 ∧ Bn self j) : Bn (m_L_bent self) k := by
  intro B d ok g
  obtain ⟨way, B1, t1, ok1, hw⟩ := eTake ok (ρ := [some .bg, some (.sh d), none, none, none]) (j := 0) rfl 8 (by decide) (by decide)
  have s1 : sSetS 2 (eCall 2 m_L_take (aCons (eVar 0) (aCons (eC (.int 8)) aNil))) [some .bg, some (.sh d), none, none, none] B = .ok (.nx (rB d way none none)) B1 := setS_ok t1 (by simp)
  have oddCase : tOrM (tBool (eBin gEq (eVar 2) (eC (.int 0)))) (tOrM (tNotM (tVal (eUn (fun d => some (.sh (.bool (isLT d)))) (eVar 1)))) (tBool (eBin gEq (eCB gLen (aCons (eVar 1) aNil)) (eC (.int 0))))) (rB d way none none) B1 = .ok true B1 →
      ∃ d' e B', m_L_bent self [.bg, .sh d] B = .ok e B' ∧ e.share = .sh d' ∧ BagOk B' ∧ Gd (1600 + 1501 * k) (21 + k) d' := by
    intro c
    obtain ⟨y, B2, u2, ok2, hy⟩ := eOdd ok1 (ρ := rB d way none none) (j := 0) rfl
    refine ⟨y, .sh y, B2, ?_, rfl, ok2, (odd_gd y hy).mono (by omega) (by omega)⟩
    refine fn_rt (ρ := [some .bg, some (.sh d), none, none, none]) rfl ?_
    rw [seq_nx s1, seq_rt (by rw [if_t c]; exact ret_ok u2)]
  have c0 : tBool (eBin gEq (eVar 2) (eC (.int 0))) (rB d way none none) B1 = .ok (decide (way = 0)) B1 := way_test 0
  have c1 : tNotM (tVal (eUn (fun d => some (.sh (.bool (isLT d)))) (eVar 1))) (rB d way none none) B1 = .ok (!isLT d) B1 := rfl
  by_cases w0 : way = 0
  · refine oddCase ?_
    unfold tOrM
    rw [c0, decide_eq_true w0]
    rfl
  · rw [decide_eq_false w0] at c0
    cases hL : isLT d with
    | false =>
      refine oddCase ?_
      unfold tOrM
      rw [c0, bind_ok, if_neg Bool.false_ne_true, c1, hL]
      rfl
    | true =>
      have main : ∀ ds : List PyData, gLen [d] = some (.sh (.int (ds.length : Int))) → gList [d] = some (.ow (.list ds)) → (∃ j, k = j + 1 ∧ La 1500 j ds) → ∃ d' e B', m_L_bent self [.bg, .sh d] B = .ok e B' ∧ e.share = .sh d' ∧ BagOk B' ∧ Gd (1600 + 1501 * k) (21 + k) d' := by
        intro ds hlen hlist hk
        obtain ⟨j, rfl, la⟩ := hk
        have hself : Bn self j := by
          rcases hs with h | ⟨j', h, hb⟩
          · cases h
          · cases h; exact hb
        have c2 : tBool (eBin gEq (eCB gLen (aCons (eVar 1) aNil)) (eC (.int 0))) (rB d way none none) B1 = .ok (decide (ds.length = 0)) B1 :=
          boolT (bin_ok (cb1_ok (e := .sh d) rfl rfl hlen) (show eC (.int 0) _ B1 = .ok (.sh (.int ((0 : Nat) : Int))) B1 from rfl) rfl rfl (eq_nat ds.length 0))
        by_cases l0 : ds.length = 0
        · refine oddCase ?_
          unfold tOrM
          rw [c0, bind_ok, if_neg Bool.false_ne_true, c1, hL, bind_ok, c2, decide_eq_true l0]
          rfl
        · rw [decide_eq_false l0] at c2
          have small := la.small
          obtain ⟨at_, B2, t2, ok2, hat⟩ := takeN ok1 ds.length (by omega) (Nat.lt_of_le_of_lt small (by decide))
          have cond : tOrM (tBool (eBin gEq (eVar 2) (eC (.int 0)))) (tOrM (tNotM (tVal (eUn (fun d => some (.sh (.bool (isLT d)))) (eVar 1)))) (tBool (eBin gEq (eCB gLen (aCons (eVar 1) aNil)) (eC (.int 0))))) (rB d way none none) B1 = .ok false B1 := by
            unfold tOrM
            rw [c0, bind_ok, if_neg Bool.false_ne_true, c1, hL, bind_ok, c2]
            rfl
          have par : sFrzA [4] (sPar2 3 4 (eCB gList (aCons (eVar 1) aNil)) (eCall 2 m_L_take (aCons (eVar 0) (aCons (eCB gLen (aCons (eVar 1) aNil)) aNil)))) (rB d way none none) B1 = .ok (.nx (rB d way (some (.ow (.list ds))) (some (.sh (.int (at_ : Int)))))) B2 := by
            have p1 : eCB gList (aCons (eVar 1) aNil) (rB d way none none) B1 = .ok (.ow (.list ds)) B1 := cb1_ok (e := .sh d) rfl rfl hlist
            have p2 : eCall 2 m_L_take (aCons (eVar 0) (aCons (eCB gLen (aCons (eVar 1) aNil)) aNil)) (rB d way none none) B1 = .ok (.sh (.int (at_ : Int))) B2 := by
              unfold eCall
              rw [aCons, show eVar 0 (rB d way none none) B1 = .ok .bg B1 from rfl, bind_ok, aCons, cb1_ok (e := .sh d) (m := eVar 1) rfl rfl hlen, bind_ok, aNil, bind_ok, bind_ok, bind_ok]
              exact t2
            unfold sFrzA sPar2
            rw [p1, bind_ok, p2, bind_ok]
            rfl
          obtain ⟨d', e, B', h1, h2, h3, h4⟩ := bent_mid hself ok2 hL (way := way) (at_ := at_) la hat hw
          refine ⟨d', e, B', ?_, h2, h3, h4⟩
          refine fn_rt (ρ := [some .bg, some (.sh d), none, none, none]) rfl ?_
          rw [seq_nx s1, seq_nx (by rw [if_f cond]; rfl), seq_nx par]
          exact h1
      cases d with
      | list ds =>
        refine main ds rfl rfl ?_
        have := g.dp
        simp only [PyData.depth] at this
        obtain ⟨j, rfl⟩ : ∃ j, k = j + 1 := ⟨k - 1, by omega⟩
        exact ⟨j, rfl, La.of_list g⟩
      | tuple ds =>
        refine main ds rfl rfl ?_
        have := g.dp
        simp only [PyData.depth] at this
        obtain ⟨j, rfl⟩ : ∃ j, k = j + 1 := ⟨k - 1, by omega⟩
        exact ⟨j, rfl, La.of_tuple g⟩
      | _ => cases hL
theorem bent_yl : Bn mm_L_bent 5 := bent_any (.inr ⟨4, rfl, bent_any (.inr ⟨3, rfl, bent_any (.inr ⟨2, rfl, bent_any (.inr ⟨1, rfl, bent_any (.inr ⟨0, rfl, bent_any (.inl rfl)⟩)⟩)⟩)⟩)⟩)
end K14
namespace K14
open PySem PySem.Spec PyProof.Rows L2 Mr
/-! ### helpers -/
theorem callA {f : FM} {n : Nat} {ms : AM} {ρ : Mr.Env} {B B1 B2 : Bag} {es : List EV} {e : EV} (h : ms ρ B = .ok es B1) (hn : es.length = n) (hf : f es B1 = .ok e B2) : eCall n f ms ρ B = .ok e B2 := by
  unfold eCall; rw [h, bind_ok, if_pos hn, hf]
theorem cons_ok {m : EM} {ms : AM} {ρ : Mr.Env} {B B1 B2 : Bag} {e e' : EV} {es : List EV} (h1 : m ρ B = .ok e B1) (hs : e.share = e') (h2 : ms ρ B1 = .ok es B2) : aCons m ms ρ B = .ok (e' :: es) B2 := by
  unfold aCons; rw [h1, bind_ok, h2, bind_ok, hs]
theorem call1 {f : FM} {ρ : Mr.Env} {m : EM} {d : PyData} {B B1 B2 : Bag} {e : EV} (hv : m ρ B = .ok (.sh d) B1) (h : f [.sh d] B1 = .ok e B2) : eCall 1 f (aCons m aNil) ρ B = .ok e B2 :=
  callA (es := [.sh d]) (cons_ok hv rfl rfl) rfl h
theorem lst_ok {ms : AM} {ρ : Mr.Env} {B B1 : Bag} {es : List EV} {ds : List PyData} (h : ms ρ B = .ok es B1) (hd : dataAll es = some ds) (hl : ds.length ≤ 1000) : eLst ms ρ B = .ok (.ow (.list ds)) B1 := by
  unfold eLst; rw [h, bind_ok, hd]; exact if_pos (sz (by omega))
theorem tup_ok {ms : AM} {ρ : Mr.Env} {B B1 : Bag} {es : List EV} {ds : List PyData} (h : ms ρ B = .ok es B1) (hd : dataAll es = some ds) (hl : ds.length ≤ 1000) : eTup ms ρ B = .ok (.sh (.tuple ds)) B1 := by
  unfold eTup; rw [h, bind_ok, hd]; exact if_pos (sz (by omega))
theorem valT {m : EM} {ρ : Mr.Env} {B B1 : Bag} {k : Bool} (h : m ρ B = .ok (.sh (.bool k)) B1) : tVal m ρ B = .ok k B1 := by
  unfold tVal; rw [h]; rfl
theorem notT {m : TM} {ρ : Mr.Env} {B B1 : Bag} {k : Bool} (h : m ρ B = .ok k B1) : tNotM m ρ B = .ok (!k) B1 := by
  unfold tNotM; rw [h]; rfl
theorem orT {m1 m2 : TM} {ρ : Mr.Env} {B : Bag} {a b : Bool} (h1 : m1 ρ B = .ok a B) (h2 : a = false → m2 ρ B = .ok b B) : tOrM m1 m2 ρ B = .ok (a || b) B := by
  unfold tOrM
  rw [h1, bind_ok]
  cases a with
  | true => rfl
  | false => rw [if_neg Bool.false_ne_true, h2 rfl]; rfl
theorem bools_map (p : PyData → Bool) : ∀ xs : List PyData, boolsD (xs.map fun d => PyData.bool (p d)) = some (xs.map p)
  | [] => rfl
  | x :: xs => by simp only [List.map_cons, boolsD, bools_map p xs, Option.map_some]
theorem all_map (p : PyData → Bool) (xs : List PyData) : gAll [.list (xs.map fun d => PyData.bool (p d))] = some (.sh (.bool (xs.all p))) := by
  simp only [gAll, bools_map, Option.map_some, List.all_map]
  rfl
/-- all([.. for x in xs]) -/
theorem all_ok {vs : List Nat} {mi : IM} {f : PyData → Mr.Env → Option Mr.Env} {me : EM} {ρ ρ' : Mr.Env} {B : Bag} {ds : List PyData} (p : PyData → Bool) (h1 : mi ρ B = .ok ds B) (hw : wipeE ρ vs = ρ') (hl : ds.length ≤ 100000)
    (st : ∀ d ∈ ds, ∃ ρ1, f d ρ' = some ρ1 ∧ me ρ1 B = .ok (.sh (.bool (p d))) B) : eCB gAll (aCons (eComp vs mi f tYesM me) aNil) ρ B = .ok (.sh (.bool (ds.all p))) B := by
  have c := compL_map (f := f) (me := me) (fun d => PyData.bool (p d)) ds ρ' [] B (by rw [List.length_nil, Nat.zero_add]; exact sz hl) (fun d hd => by
    obtain ⟨ρ1, e1, e2⟩ := st d hd
    exact ⟨ρ1, _, e1, e2, rfl⟩)
  exact cb1_ok (comp_ok h1 hw c) rfl (all_map p ds)
/-- [x for x in xs if ..], empty or not -/
theorem filt_ok {vs : List Nat} {mi : IM} {f : PyData → Mr.Env → Option Mr.Env} {tt : TM} {me : EM} {ρ ρ' : Mr.Env} {B : Bag} {ds : List PyData} (F : PyData → PyData) (p : PyData → Bool) (h1 : mi ρ B = .ok ds B) (hw : wipeE ρ vs = ρ') (hl : ds.length ≤ 100000)
    (st : ∀ d ∈ ds, ∃ ρ1 e, f d ρ' = some ρ1 ∧ tt ρ1 B = .ok (!p d) B ∧ me ρ1 B = .ok e B ∧ e.data = some (F d)) : eComp vs mi f tt me ρ B = .ok (.ow (.list ((ds.filter fun d => !p d).map F))) B := by
  have c := compL_filter (f := f) (tt := tt) (me := me) F (fun d => !p d) ds ρ' [] B (by rw [List.length_nil, Nat.zero_add]; exact sz hl) st
  exact comp_ok h1 hw c
theorem filt_all (F : PyData → PyData) (p : PyData → Bool) (ds : List PyData) : ((ds.filter fun d => !p d).map F).isEmpty = ds.all p := by
  induction ds with
  | nil => rfl
  | cons d ds ih =>
    rw [List.filter_cons]
    cases h : p d with
    | true => simp only [Bool.not_true, Bool.false_eq_true, if_false, List.all_cons, h, Bool.true_and]; exact ih
    | false => simp [h]
theorem nil_ok {ρ : Mr.Env} {B : Bag} : eLst aNil ρ B = .ok (.ow (.list [])) B := rfl
/-! ### one beside another -/
def coupG (R : PyData → PyData → Bool) : List PyData → Bool
  | a :: b :: r => R a b && coupG R (b :: r)
  | _ => true
theorem zip_coup (R : PyData → PyData → Bool) : ∀ xs : List PyData, ((xs.zip (xs.drop 1)).all fun p => R p.1 p.2) = coupG R xs
  | [] => rfl
  | [_] => rfl
  | a :: b :: r => by
    have ih := zip_coup R (b :: r)
    simp only [List.drop_succ_cons, List.drop_zero, List.zip_cons_cons, List.all_cons, coupG] at ih ⊢
    rw [ih]
def atG (R : PyData → PyData → Bool) (xs : List PyData) (k : Nat) : Bool := match xs[k]?, xs[k + 1]? with
  | some a, some b => R a b
  | _, _ => true
theorem range_all_succ (n : Nat) (p : Nat → Bool) : (List.range (n + 1)).all p = (p 0 && (List.range n).all fun k => p (k + 1)) := by
  rw [List.range_succ_eq_map, List.all_cons, List.all_map]
  rfl
theorem ix_coup (R : PyData → PyData → Bool) : ∀ xs : List PyData, ((List.range (xs.length - 1)).all (atG R xs)) = coupG R xs
  | [] => rfl
  | [_] => rfl
  | a :: b :: r => by
    have ih := ix_coup R (b :: r)
    simp only [List.length_cons, Nat.add_sub_cancel] at ih ⊢
    rw [range_all_succ, coupG, ← ih]
    rfl
/-! ### ends of a step -/
def begD : PyData → PyData
  | .tuple [.tuple [a, b, _], .bool u] => if u then b else a
  | _ => .none
def endD : PyData → PyData
  | .tuple [.tuple [a, b, _], .bool u] => if u then a else b
  | _ => .none
theorem step_shape {d : PyData} (h : stepB' d = true) : ∃ x y t u, d = .tuple [.tuple [.str x, .str y, .bool t], .bool u] := by
  unfold stepB' at h
  split at h
  · simp only [Bool.and_eq_true] at h
    obtain ⟨x, y, t, e⟩ := cart_shape h.1
    cases e
    exact ⟨x, y, _, _, rfl⟩
  · cases h
theorem step_ends {d : PyData} (h : stepB' d = true) : ∃ x y : Str, begD d = .str x ∧ endD d = .str y := by
  obtain ⟨x, y, t, u, rfl⟩ := step_shape h
  cases u
  · exact ⟨x, y, rfl, rfl⟩
  · exact ⟨y, x, rfl, rfl⟩
theorem begin_eq {d : PyData} (h : stepB' d = true) (B : Bag) : m_begin_of [.sh d] B = .ok (.sh (begD d)) B := by
  obtain ⟨x, y, t, u, rfl⟩ := step_shape h
  cases u <;> rfl
theorem end_eq {d : PyData} (h : stepB' d = true) (B : Bag) : m_end_of [.sh d] B = .ok (.sh (endD d)) B := by
  obtain ⟨x, y, t, u, rfl⟩ := step_shape h
  cases u <;> rfl
theorem l_begin_eq {d : PyData} (h : stepB' d = true) (B : Bag) : m_L_begin [.sh d] B = .ok (.sh (begD d)) B := by
  obtain ⟨x, y, t, u, rfl⟩ := step_shape h
  cases u <;> rfl
theorem l_end_eq {d : PyData} (h : stepB' d = true) (B : Bag) : m_L_end [.sh d] B = .ok (.sh (endD d)) B := by
  obtain ⟨x, y, t, u, rfl⟩ := step_shape h
  cases u <;> rfl
def rCp (a b : PyData) : Bool := PyData.eqv (endD a) (begD b)
theorem eq_strs {d1 d2 : PyData} {x y : Str} (h1 : d1 = .str x) (h2 : d2 = .str y) : gEq d1 d2 = some (.sh (.bool (PyData.eqv d1 d2))) ∧ gNe d1 d2 = some (.sh (.bool (!PyData.eqv d1 d2))) := by
  subst h1 h2
  simp only [gEq, gNe, okD_str, Bool.and_self, if_true, and_self]
theorem couple_eq {a b : PyData} (ha : stepB' a = true) (hb : stepB' b = true) (B : Bag) : m_couple [.sh a, .sh b] B = .ok (.sh (.bool (rCp a b))) B := by
  obtain ⟨x, y, _, e1⟩ := step_ends ha
  obtain ⟨x', y', e2, _⟩ := step_ends hb
  refine fn_rt (ρ := [some (.sh a), some (.sh b)]) rfl (ret_ok (bin_ok (call1 (m := eVar 0) (d := a) rfl (end_eq ha B)) (call1 (m := eVar 1) (d := b) rfl (begin_eq hb B)) rfl rfl (eq_strs e1 e2).1))
/-! ### rows -/
def seqB (p : PyData → Bool) (R : PyData → PyData → Bool) : PyData → Bool
  | .list xs => !xs.isEmpty && (xs.all p && coupG R xs)
  | _ => false
def rowB0 : PyData → Bool
  | .list xs => !xs.isEmpty && (xs.all stepB' && coupG rCp xs)
  | _ => false
theorem bulk_len {xs : List PyData} (h : (PyData.list xs).bulk ≤ 100000) : xs.length ≤ 100000 ∧ ∀ d ∈ xs, d.bulk ≤ 100000 := by
  have a : ∀ xs : List PyData, xs.length ≤ PyData.bulkAll xs := by
    intro xs
    induction xs with
    | nil => simp
    | cons x xs ih => simp only [List.length_cons, PyData.bulkAll]; omega
  simp only [PyData.bulk] at h
  exact ⟨Nat.le_trans (a xs) h, fun d hd => Nat.le_trans (bulk_mem hd) h⟩
def pairB (R : PyData → PyData → Bool) : PyData → Bool
  | .tuple [a, b] => R a b
  | _ => true
theorem all_zip (R : PyData → PyData → Bool) (xs : List PyData) : (zipD xs (xs.drop 1)).all (pairB R) = coupG R xs := by
  rw [← zip_coup, zipD, List.all_map]
  rfl
theorem mem_zipD {xs : List PyData} {d : PyData} (h : d ∈ zipD xs (xs.drop 1)) : ∃ a b, d = .tuple [a, b] ∧ a ∈ xs ∧ b ∈ xs := by
  unfold zipD at h
  simp only [List.mem_map] at h
  obtain ⟨p, hp, rfl⟩ := h
  have := List.of_mem_zip hp
  exact ⟨p.1, p.2, rfl, this.1, List.mem_of_mem_drop this.2⟩
theorem zip_iter {ρ : Mr.Env} {B : Bag} {xs : List PyData} (h : ρ[0]? = some (some (.sh (.list xs)))) : iZipM (aCons (eVar 0) (aCons (eSl (eVar 0) (oSome (eC (.int 1))) oNone) aNil)) ρ B = .ok (zipD xs (xs.drop 1)) B := by
  have v0 : eVar 0 ρ B = .ok (.sh (.list xs)) B := by unfold eVar; rw [h]
  have s1 : eSl (eVar 0) (oSome (eC (.int 1))) oNone ρ B = .ok (.ow (.list (xs.drop 1))) B := by
    refine sl_ok v0 (l := some ((1 : Nat) : Int)) (oSome_ok rfl) (h := none) rfl rfl ?_
    rw [← cutL_from xs 1]
    rfl
  unfold iZipM
  rw [cons_ok v0 rfl (cons_ok s1 rfl rfl), bind_ok]
  rfl
end K14
namespace K14
open PySem PySem.Spec PyProof.Rows L2 Mr
abbrev rowB : PyData → Bool := seqB stepB' rCp
/-- all of the list are such, each one and the next are so: the program's way -/
theorem zip_core (S : FM) (p : PyData → Bool) (me : EM) (R : PyData → PyData → Bool) (hS : ∀ (d : PyData) (B : Bag), d.bulk ≤ 100000 → S [.sh d] B = .ok (.sh (.bool (p d))) B)
    (hR : ∀ (x a b : PyData) (B : Bag), p a = true → p b = true → me [some (.sh x), some (.sh a), some (.sh b)] B = .ok (.sh (.bool (R a b))) B) {d : PyData} (B : Bag) (h : d.bulk ≤ 100000) :
    mfn 3 (sSeq (sIf (tOrM (tNotM (tVal (eUn (gIsi "list") (eVar 0)))) (tOrM (tBool (eBin gEqN (eVar 0) (eLst aNil))) (tNotM (tVal (eCB gAll (aCons (eComp [1] (iVal (eVar 0)) (fName 1) tYesM (eCall 1 S (aCons (eVar 1) aNil))) aNil))))))
  (sRet (eC (.bool false))) sSkip)
  (sRet (eCB gAll (aCons (eComp [1, 2] (iZipM (aCons (eVar 0) (aCons (eSl (eVar 0) (oSome (eC (.int 1))) oNone) aNil))) (fTup 2 (fCons (fName 1) (fCons (fName 2) fNil))) tYesM me) aNil)))) [.sh d] B = .ok (.sh (.bool (seqB p R d))) B := by
  cases d with
  | list xs =>
    obtain ⟨hl, hb⟩ := bulk_len h
    have t0 : tVal (eUn (gIsi "list") (eVar 0)) [some (.sh (.list xs)), none, none] B = .ok true B := rfl
    have t1 : tBool (eBin gEqN (eVar 0) (eLst aNil)) [some (.sh (.list xs)), none, none] B = .ok xs.isEmpty B := boolT (bin_ok (e1 := .sh (.list xs)) rfl nil_ok rfl rfl rfl)
    have t2 : tVal (eCB gAll (aCons (eComp [1] (iVal (eVar 0)) (fName 1) tYesM (eCall 1 S (aCons (eVar 1) aNil))) aNil)) [some (.sh (.list xs)), none, none] B = .ok (xs.all p) B :=
      valT (all_ok p (ds := xs) rfl rfl hl (fun d hd => ⟨[some (.sh (.list xs)), some (.sh d), none], rfl, call1 (m := eVar 1) rfl (hS d B (hb d hd))⟩))
    have c := orT (notT t0) fun _ => orT t1 fun _ => notT t2
    refine fn_rt (ρ := [some (.sh (.list xs)), none, none]) rfl ?_
    cases he : xs.isEmpty with
    | true =>
      rw [he] at c
      rw [seq_rt (by rw [if_t c]; exact ret_ok rfl)]
      simp [seqB, he]
    | false =>
      cases ha : xs.all p with
      | false =>
        rw [he, ha] at c
        rw [seq_rt (by rw [if_t c]; exact ret_ok rfl)]
        simp [seqB, he, ha]
      | true =>
        rw [he, ha] at c
        rw [seq_nx (by rw [if_f c]; rfl)]
        have pa : ∀ d ∈ xs, p d = true := List.all_eq_true.mp ha
        have z := all_ok (vs := [1, 2]) (f := fTup 2 (fCons (fName 1) (fCons (fName 2) fNil))) (me := me) (ρ := [some (.sh (.list xs)), none, none]) (pairB R) (zip_iter rfl) rfl (by
            unfold zipD
            rw [List.length_map, List.length_zip, List.length_drop]
            omega) (B := B) (fun q hq => by
          obtain ⟨a, b, rfl, h1, h2⟩ := mem_zipD hq
          exact ⟨[some (.sh (.list xs)), some (.sh a), some (.sh b)], rfl, hR _ a b B (pa a h1) (pa b h2)⟩)
        rw [all_zip] at z
        rw [ret_ok z]
        simp only [seqB, he, ha, Bool.not_false, Bool.true_and]
  | _ => rfl
theorem is_row_eq {d : PyData} (B : Bag) (h : d.bulk ≤ 100000) : m_is_row [.sh d] B = .ok (.sh (.bool (rowB d))) B :=
  zip_core m_is_step stepB' _ rCp (fun d B h => is_step_eq B h) (fun x a b B ha hb => callA (es := [.sh a, .sh b]) rfl rfl (couple_eq ha hb B)) B h
theorem range2_ok {m : EM} {ρ : Mr.Env} {B B1 : Bag} {n : Nat} (h : m ρ B = .ok (.sh (.int (n : Int))) B1) (hn : n ≤ 100000) : iRange2 (aCons (eC (.int 1)) (aCons m aNil)) ρ B = .ok (rangeD 1 (n : Int)) B1 := by
  unfold iRange2
  rw [cons_ok (e := .sh (.int 1)) (B1 := B) rfl rfl (cons_ok h rfl rfl), bind_ok]
  show (if -(2 ^ 62) ≤ (1 : Int) ∧ (1 : Int) < 2 ^ 62 ∧ -(2 ^ 62) ≤ (n : Int) ∧ (n : Int) < 2 ^ 62 then Out.ok (rangeD 1 (n : Int)) B1 else Out.bad) = _
  rw [if_pos ⟨by decide, by decide, Int.le_trans (b := 0) (by decide) (Int.natCast_nonneg n), Int.lt_of_le_of_lt (b := 100000) (by omega) (by decide)⟩]
theorem rangeD1 (n : Nat) : rangeD 1 (n : Int) = (List.range (n - 1)).map fun (k : Nat) => PyData.int (((k + 1 : Nat) : Int)) := by
  unfold rangeD
  have e : ((n : Int) - 1).toNat = n - 1 := by omega
  rw [e]
  refine List.map_congr_left fun k _ => ?_
  congr 1
  omega
def ixB (R : PyData → PyData → Bool) (xs : List PyData) : PyData → Bool
  | .int k => atG R xs (k.toNat - 1)
  | _ => true
theorem range_coup (R : PyData → PyData → Bool) (xs : List PyData) : (rangeD 1 (xs.length : Int)).all (ixB R xs) = coupG R xs := by
  rw [rangeD1, List.all_map, ← ix_coup]
  congr 1
theorem ixI_nat (xs : List PyData) (k : Nat) {x : PyData} (h : xs[k]? = some x) : gIx (.list xs) (.int (k : Int)) = some (.sh x) := by
  obtain ⟨hk, _⟩ := List.getElem?_eq_some_iff.mp h
  obtain ⟨y, h1, _, h2⟩ := atI_at (xs := xs) (i := (k : Int)) (by omega) (by omega)
  have e : ((k : Int)).toNat = k := by omega
  rw [e, h] at h2
  cases h2
  simp only [gIx, h1, Option.map_some]
/-- the law's way: [k for k in range(1, len(xs)) if xs[k - 1] .. xs[k]] == [] -/
theorem ix_core {vs : List Nat} {j i : Nat} {tt : TM} {R : PyData → PyData → Bool} {ρ ρ' : Mr.Env} {B : Bag} {xs : List PyData} (hl : xs.length ≤ 100000) (hw : wipeE ρ vs = ρ') (hi : ρ[i]? = some (some (.sh (.list xs)))) (hj : j < ρ'.length)
    (st : ∀ (k : Nat) (a b : PyData), xs[k]? = some a → xs[k + 1]? = some b → tt (ρ'.set j (some (.sh (.int ((k + 1 : Nat) : Int))))) B = .ok (!R a b) B) :
    eBin gEqN (eComp vs (iRange2 (aCons (eC (.int 1)) (aCons (eCB gLen (aCons (eVar i) aNil)) aNil))) (fName j) tt (eVar j)) (eLst aNil) ρ B = .ok (.sh (.bool (coupG R xs))) B := by
  have v0 : eVar i ρ B = .ok (.sh (.list xs)) B := by unfold eVar; rw [hi]
  have r := range2_ok (cb1_ok (g := gLen) v0 rfl rfl) hl
  have c := filt_ok (vs := vs) (f := fName j) (tt := tt) (me := eVar j) id (ixB R xs) r hw (by
      rw [rangeD1, List.length_map, List.length_range]; omega) (fun d hd => by
    rw [rangeD1] at hd
    simp only [List.mem_map, List.mem_range] at hd
    obtain ⟨k, hk, rfl⟩ := hd
    have h1 : k < xs.length := by omega
    have h2 : k + 1 < xs.length := by omega
    refine ⟨ρ'.set j (some (.sh (.int ((k + 1 : Nat) : Int)))), .sh (.int ((k + 1 : Nat) : Int)), ?_, ?_, ?_, rfl⟩
    · unfold fName; rw [if_pos hj]
    · have := st k _ _ (List.getElem?_eq_getElem h1) (List.getElem?_eq_getElem h2)
      rw [this]
      have e : ((k + 1 : Nat) : Int).toNat - 1 = k := by omega
      simp only [ixB, e, atG, List.getElem?_eq_getElem h1, List.getElem?_eq_getElem h2]
    · unfold eVar
      rw [List.getElem?_set_self hj])
  refine bin_ok c nil_ok rfl rfl ?_
  simp only [gEqN, filt_all, range_coup]
end K14
namespace K14
open PySem PySem.Spec PyProof.Rows L2 Mr
theorem l_is_row_eq {d : PyData} (B : Bag) (h : d.bulk ≤ 100000) : m_L_is_row [.sh d] B = .ok (.sh (.bool (rowB d))) B := by
  cases d with
  | list xs =>
    obtain ⟨hl, hb⟩ := bulk_len h
    have t0 : tVal (eUn (gIsi "list") (eVar 0)) [some (.sh (.list xs)), none, none] B = .ok true B := rfl
    have t1 : tBool (eBin gEqN (eVar 0) (eLst aNil)) [some (.sh (.list xs)), none, none] B = .ok xs.isEmpty B := boolT (bin_ok (e1 := .sh (.list xs)) rfl nil_ok rfl rfl rfl)
    have f2 := filt_ok (vs := [2]) (mi := iVal (eVar 0)) (f := fName 2) (tt := tNotM (tVal (eCall 1 m_L_is_step (aCons (eVar 2) aNil)))) (me := eVar 2) (ρ := [some (.sh (.list xs)), none, none]) (B := B) (ds := xs) id stepB' rfl rfl hl
      (fun d hd => ⟨[some (.sh (.list xs)), none, some (.sh d)], .sh d, rfl, notT (valT (call1 (m := eVar 2) rfl (l_is_step_eq B (hb d hd)))), rfl, rfl⟩)
    have t2 : tBool (eBin gNeN (eComp [2] (iVal (eVar 0)) (fName 2) (tNotM (tVal (eCall 1 m_L_is_step (aCons (eVar 2) aNil)))) (eVar 2)) (eLst aNil)) [some (.sh (.list xs)), none, none] B = .ok (!xs.all stepB') B := by
      refine boolT (bin_ok f2 nil_ok rfl rfl ?_)
      simp only [gNeN, filt_all]
    have c := orT (notT t0) fun _ => orT t1 fun _ => t2
    refine fn_rt (ρ := [some (.sh (.list xs)), none, none]) rfl ?_
    cases he : xs.isEmpty with
    | true =>
      rw [he] at c
      rw [seq_rt (by rw [if_t c]; exact ret_ok rfl)]
      simp [seqB, he]
    | false =>
      cases ha : xs.all stepB' with
      | false =>
        rw [he, ha] at c
        rw [seq_rt (by rw [if_t c]; exact ret_ok rfl)]
        simp [seqB, he, ha]
      | true =>
        rw [he, ha] at c
        rw [seq_nx (by rw [if_f c]; rfl)]
        have pa : ∀ d ∈ xs, stepB' d = true := List.all_eq_true.mp ha
        have z := ix_core (vs := [1]) (j := 1) (i := 0) (tt := tBool (eBin gNe (eCall 1 m_L_end (aCons (eBin gIx (eVar 0) (eBin gSub (eVar 1) (eC (.int 1)))) aNil)) (eCall 1 m_L_begin (aCons (eBin gIx (eVar 0) (eVar 1)) aNil)))) (R := rCp) (ρ := [some (.sh (.list xs)), none, none]) (B := B) hl rfl rfl (by simp [wipeE]) (fun k a b h1 h2 => by
          have sa := pa a (List.mem_of_getElem? h1)
          have sb := pa b (List.mem_of_getElem? h2)
          obtain ⟨x, y, _, e1⟩ := step_ends sa
          obtain ⟨x', y', e2, _⟩ := step_ends sb
          have ek : ((k + 1 : Nat) : Int) - 1 = (k : Int) := by omega
          have m1 : eBin gSub (eVar 1) (eC (.int 1)) [some (.sh (.list xs)), some (.sh (.int ((k + 1 : Nat) : Int))), none] B = .ok (.sh (.int (k : Int))) B := by
            refine bin_ok (e1 := .sh (.int ((k + 1 : Nat) : Int))) (e2 := .sh (.int 1)) rfl rfl rfl rfl ?_
            show some (EV.sh (.int (((k + 1 : Nat) : Int) - 1))) = _
            rw [ek]
          exact boolT (bin_ok (call1 (bin_ok (e1 := .sh (.list xs)) rfl m1 rfl rfl (ixI_nat xs k h1)) (l_end_eq sa B)) (call1 (bin_ok (e1 := .sh (.list xs)) (e2 := .sh (.int ((k + 1 : Nat) : Int))) rfl rfl rfl rfl (ixI_nat xs (k + 1) h2)) (l_begin_eq sb B)) rfl rfl (eq_strs e1 e2).2))
        rw [ret_ok z]
        simp only [seqB, he, ha, Bool.not_false, Bool.true_and]
  | _ => rfl
/-! ### the ends of a row -/
def begR : PyData → PyData
  | .list (x :: _) => begD x
  | _ => .none
def endR : PyData → PyData
  | .list xs => (match xs.getLast? with
    | some x => endD x
    | none => .none)
  | _ => .none
theorem row_shape {r : PyData} (h : rowB r = true) : ∃ (x : PyData) (xs ys : List PyData) (y : PyData), r = .list (x :: xs) ∧ x :: xs = ys ++ [y] ∧ stepB' x = true ∧ stepB' y = true := by
  cases r with
  | list l =>
    simp only [rowB, seqB, Bool.and_eq_true, Bool.not_eq_true'] at h
    obtain ⟨h1, h2, _⟩ := h
    have pa : ∀ d ∈ l, stepB' d = true := List.all_eq_true.mp h2
    cases l with
    | nil => cases h1
    | cons x xs =>
      refine ⟨x, xs, (x :: xs).dropLast, (x :: xs).getLast (List.cons_ne_nil _ _), rfl, (List.dropLast_concat_getLast _).symm, pa x (List.mem_cons_self ..), pa _ (List.getLast_mem _)⟩
  | _ => cases h
theorem row_ix {r : PyData} (h : rowB r = true) : ∃ x y : PyData, gIx r (.int 0) = some (.sh x) ∧ gIx r (.int (-1)) = some (.sh y) ∧ stepB' x = true ∧ stepB' y = true ∧ begR r = begD x ∧ endR r = endD y := by
  obtain ⟨x, xs, ys, y, rfl, e, hx, hy⟩ := row_shape h
  refine ⟨x, y, ixI_nat (x :: xs) 0 rfl, ?_, hx, hy, rfl, ?_⟩
  · simp only [gIx]
    rw [e, atI_last]
    rfl
  · show (match (x :: xs).getLast? with | some x => endD x | none => .none) = _
    rw [e, List.getLast?_concat]
theorem row_ends_str {r : PyData} (h : rowB r = true) : ∃ x y : Str, begR r = .str x ∧ endR r = .str y := by
  obtain ⟨a, b, _, _, ha, hb, e1, e2⟩ := row_ix h
  obtain ⟨x, _, h1, _⟩ := step_ends ha
  obtain ⟨_, y, _, h2⟩ := step_ends hb
  exact ⟨x, y, by rw [e1, h1], by rw [e2, h2]⟩
theorem neg1 {ρ : Mr.Env} {B : Bag} : eUn gNeg (eC (.int 1)) ρ B = .ok (.sh (.int (-1))) B := rfl
theorem row_ends_eq {r : PyData} (h : rowB r = true) (B : Bag) : m_row_ends [.sh r] B = .ok (.sh (.tuple [begR r, endR r])) B := by
  obtain ⟨a, b, h1, h2, ha, hb, e1, e2⟩ := row_ix h
  refine fn_rt (ρ := [some (.sh r)]) rfl (ret_ok (tup_ok (es := [.sh (begR r), .sh (endR r)]) (cons_ok (call1 (bin_ok (e1 := .sh r) (e2 := .sh (.int 0)) rfl rfl rfl rfl h1) (begin_eq ha B)) ?_ (cons_ok (call1 (bin_ok (e1 := .sh r) rfl neg1 rfl rfl h2) (end_eq hb B)) ?_ rfl)) rfl (by simp)))
  · rw [e1]; rfl
  · rw [e2]; rfl
/-! ### parts -/
def partB : PyData → Bool
  | .tuple [n, r] => numB 1 n && (rowB r && (PyData.eqv n (.int 1) || PyData.eqv (begR r) (endR r)))
  | _ => false
theorem orE {m1 m2 : EM} {ρ : Mr.Env} {B : Bag} {a b : Bool} (h1 : m1 ρ B = .ok (.sh (.bool a)) B) (h2 : m2 ρ B = .ok (.sh (.bool b)) B) : eOr m1 m2 ρ B = .ok (.sh (.bool (a || b))) B := by
  unfold eOr
  rw [h1, bind_ok]
  cases a
  · exact h2
  · rfl
theorem andE {m1 m2 : EM} {ρ : Mr.Env} {B : Bag} {a b : Bool} (h1 : m1 ρ B = .ok (.sh (.bool a)) B) (h2 : a = true → m2 ρ B = .ok (.sh (.bool b)) B) : eAnd m1 m2 ρ B = .ok (.sh (.bool (a && b))) B := by
  unfold eAnd
  rw [h1, bind_ok]
  cases a
  · rfl
  · exact h2 rfl
theorem eq_ints (i j : Int) : gEq (.int i) (.int j) = some (.sh (.bool (PyData.eqv (.int i) (.int j)))) := by
  simp only [gEq, okD_int, Bool.and_self, if_true]
theorem is_part_eq {d : PyData} (B : Bag) (h : d.bulk ≤ 100000) : m_is_part [.sh d] B = .ok (.sh (.bool (partB d))) B := by
  cases d with
  | tuple xs =>
    by_cases h2 : xs.length = 2
    · match xs, h2 with
      | [n, r], _ =>
        obtain ⟨hn, hr⟩ := bulk2 h
        have t0 : tVal (eUn (gIsi "tuple") (eVar 0)) [some (.sh (.tuple [n, r])), none, none] B = .ok true B := rfl
        have t1 : tBool (eBin gNe (eCB gLen (aCons (eVar 0) aNil)) (eC (.int 2))) [some (.sh (.tuple [n, r])), none, none] B = .ok false B :=
          boolT (bin_ok (e1 := .sh (.int 2)) (e2 := .sh (.int 2)) rfl rfl rfl rfl (ne_same 2))
        have t2 : tVal (eCall 2 m_is_number (aCons (eC (.int 1)) (aCons (eBin gIx (eVar 0) (eC (.int 0))) aNil))) [some (.sh (.tuple [n, r])), none, none] B = .ok (numB 1 n) B :=
          valT (callA (es := [.sh (.int 1), .sh n]) rfl rfl (is_number_eq 1 n B))
        have t3 : tVal (eCall 1 m_is_row (aCons (eBin gIx (eVar 0) (eC (.int 1))) aNil)) [some (.sh (.tuple [n, r])), none, none] B = .ok (rowB r) B :=
          valT (callA (es := [.sh r]) rfl rfl (is_row_eq B hr))
        have c := orT (notT t0) fun _ => orT t1 fun _ => orT (notT t2) fun _ => notT t3
        refine fn_rt (ρ := [some (.sh (.tuple [n, r])), none, none]) rfl ?_
        cases e2 : numB 1 n with
        | false =>
          rw [e2] at c
          rw [seq_rt (by rw [if_t c]; exact ret_ok rfl)]
          simp only [partB, e2, Bool.false_and]
        | true =>
          cases e3 : rowB r with
          | false =>
            rw [e2, e3] at c
            rw [seq_rt (by rw [if_t c]; exact ret_ok rfl)]
            simp only [partB, e2, e3, Bool.false_and, Bool.and_false]
          | true =>
            rw [e2, e3] at c
            rw [seq_nx (by rw [if_f c]; rfl)]
            have re : eCall 1 m_row_ends (aCons (eBin gIx (eVar 0) (eC (.int 1))) aNil) [some (.sh (.tuple [n, r])), none, none] B = .ok (.sh (.tuple [begR r, endR r])) B := callA (es := [.sh r]) rfl rfl (row_ends_eq e3 B)
            have un : sUnp (fTup 2 (fCons (fName 1) (fCons (fName 2) fNil))) (eCall 1 m_row_ends (aCons (eBin gIx (eVar 0) (eC (.int 1))) aNil)) [some (.sh (.tuple [n, r])), none, none] B = .ok (.nx [some (.sh (.tuple [n, r])), some (.sh (begR r)), some (.sh (endR r))]) B := by
              unfold sUnp
              rw [re]
              rfl
            rw [seq_nx un]
            obtain ⟨x, y, ex, ey⟩ := row_ends_str e3
            cases n with
            | int i =>
              rw [ret_ok (orE (bin_ok (e1 := .sh (.int i)) (e2 := .sh (.int 1)) rfl rfl rfl rfl (eq_ints i 1)) (bin_ok (e1 := .sh (begR r)) (e2 := .sh (endR r)) rfl rfl rfl rfl (eq_strs ex ey).1))]
              simp only [partB, e2, e3, Bool.true_and]
            | _ => cases e2
    · have t0 : tVal (eUn (gIsi "tuple") (eVar 0)) [some (.sh (.tuple xs)), none, none] B = .ok true B := rfl
      have t1 : tBool (eBin gNe (eCB gLen (aCons (eVar 0) aNil)) (eC (.int 2))) [some (.sh (.tuple xs)), none, none] B = .ok true B :=
        boolT (bin_ok (e1 := .sh (.int (xs.length : Int))) (e2 := .sh (.int ((2 : Nat) : Int))) rfl rfl rfl rfl (ne_len h2))
      have c : tOrM (tNotM (tVal (eUn (gIsi "tuple") (eVar 0)))) (tOrM (tBool (eBin gNe (eCB gLen (aCons (eVar 0) aNil)) (eC (.int 2)))) (tOrM (tNotM (tVal (eCall 2 m_is_number (aCons (eC (.int 1)) (aCons (eBin gIx (eVar 0) (eC (.int 0))) aNil))))) (tNotM (tVal (eCall 1 m_is_row (aCons (eBin gIx (eVar 0) (eC (.int 1))) aNil)))))) [some (.sh (.tuple xs)), none, none] B = .ok (!true || (true || true)) B :=
        orT (notT t0) fun _ => orT t1 (b := true) fun h => nomatch h
      refine fn_rt (ρ := [some (.sh (.tuple xs)), none, none]) rfl ?_
      rw [seq_rt (by rw [if_t c]; exact ret_ok rfl)]
      match xs, h2 with
      | [], _ => rfl
      | [_], _ => rfl
      | [_, _], h2 => exact absurd rfl h2
      | _ :: _ :: _ :: _, _ => rfl
  | _ => rfl
end K14
namespace K14
open PySem PySem.Spec PyProof.Rows L2 Mr
theorem lt_one (i : Int) : gLt (.int i) (.int 1) = some (.sh (.bool (!numB 1 (.int i)))) := by
  simp only [gLt, okC_int, lt_intD, if_true, numB]
  congr 3
  by_cases h : i < 1
  · have : ¬ (1 ≤ i) := by omega
    simp [h, this]
  · have : 1 ≤ i := by omega
    simp [h, this]
theorem l_is_part_eq {d : PyData} (B : Bag) (h : d.bulk ≤ 100000) : m_L_is_part [.sh d] B = .ok (.sh (.bool (partB d))) B := by
  cases d with
  | tuple xs =>
    by_cases h2 : xs.length = 2
    · match xs, h2 with
      | [n, r], _ =>
        obtain ⟨hn, hr⟩ := bulk2 h
        have t0 : tVal (eUn (gIsi "tuple") (eVar 0)) [some (.sh (.tuple [n, r]))] B = .ok true B := rfl
        have t1 : tBool (eBin gNe (eCB gLen (aCons (eVar 0) aNil)) (eC (.int 2))) [some (.sh (.tuple [n, r]))] B = .ok false B :=
          boolT (bin_ok (e1 := .sh (.int 2)) (e2 := .sh (.int 2)) rfl rfl rfl rfl (ne_same 2))
        have t2 : tVal (eCall 1 m_L_is_int (aCons (eBin gIx (eVar 0) (eC (.int 0))) aNil)) [some (.sh (.tuple [n, r]))] B = .ok (intB n) B :=
          valT (callA (es := [.sh n]) rfl rfl (l_is_int_eq n B))
        have t3 : intB n = true → tBool (eBin gLt (eBin gIx (eVar 0) (eC (.int 0))) (eC (.int 1))) [some (.sh (.tuple [n, r]))] B = .ok (!numB 1 n) B := by
          intro hi
          cases n with
          | int i => exact boolT (bin_ok (e1 := .sh (.int i)) (e2 := .sh (.int 1)) rfl rfl rfl rfl (lt_one i))
          | _ => cases hi
        have c := orT (notT t0) fun _ => orT t1 fun _ => orT (notT t2) fun hf => t3 (by simpa using hf)
        have r1 : eCall 1 m_L_is_row (aCons (eBin gIx (eVar 0) (eC (.int 1))) aNil) [some (.sh (.tuple [n, r]))] B = .ok (.sh (.bool (rowB r))) B :=
          callA (es := [.sh r]) rfl rfl (l_is_row_eq B hr)
        refine fn_rt (ρ := [some (.sh (.tuple [n, r]))]) rfl ?_
        cases n with
        | int i =>
          cases e2 : numB 1 (.int i) with
          | false =>
            rw [e2] at c
            rw [seq_rt (by rw [if_t c]; exact ret_ok rfl)]
            simp only [partB, e2, Bool.false_and]
          | true =>
            rw [e2] at c
            rw [seq_nx (by rw [if_f c]; rfl)]
            have body := andE (m2 := eOr (eBin gEq (eBin gIx (eVar 0) (eC (.int 0))) (eC (.int 1))) (eBin gEq (eCall 1 m_L_begin (aCons (eBin gIx (eBin gIx (eVar 0) (eC (.int 1))) (eC (.int 0))) aNil)) (eCall 1 m_L_end (aCons (eBin gIx (eBin gIx (eVar 0) (eC (.int 1))) (eUn gNeg (eC (.int 1)))) aNil)))) (b := PyData.eqv (.int i) (.int 1) || PyData.eqv (begR r) (endR r)) r1 (fun e3 => by
              obtain ⟨a, b, h1, h2, ha, hb, e1, e2⟩ := row_ix e3
              obtain ⟨x, y, ex, ey⟩ := row_ends_str e3
              have ix1 : eBin gIx (eVar 0) (eC (.int 1)) [some (.sh (.tuple [.int i, r]))] B = .ok (.sh r) B := rfl
              refine orE (bin_ok (e1 := .sh (.int i)) (e2 := .sh (.int 1)) rfl rfl rfl rfl (eq_ints i 1)) (bin_ok (B1 := B) (e1 := .sh (begR r)) (e2 := .sh (endR r)) ?_ ?_ rfl rfl (eq_strs ex ey).1)
              · rw [e1]; exact call1 (bin_ok (e2 := .sh (.int 0)) ix1 rfl rfl rfl h1) (l_begin_eq ha B)
              · rw [e2]; exact call1 (bin_ok ix1 neg1 rfl rfl h2) (l_end_eq hb B))
            rw [ret_ok body]
            simp only [partB, e2, Bool.true_and]
        | _ =>
          have c' := c
          rw [seq_rt (by rw [if_t c']; exact ret_ok rfl)]
          rfl
    · have t0 : tVal (eUn (gIsi "tuple") (eVar 0)) [some (.sh (.tuple xs))] B = .ok true B := rfl
      have t1 : tBool (eBin gNe (eCB gLen (aCons (eVar 0) aNil)) (eC (.int 2))) [some (.sh (.tuple xs))] B = .ok true B :=
        boolT (bin_ok (e1 := .sh (.int (xs.length : Int))) (e2 := .sh (.int ((2 : Nat) : Int))) rfl rfl rfl rfl (ne_len h2))
      have c : tOrM (tNotM (tVal (eUn (gIsi "tuple") (eVar 0)))) (tOrM (tBool (eBin gNe (eCB gLen (aCons (eVar 0) aNil)) (eC (.int 2)))) (tOrM (tNotM (tVal (eCall 1 m_L_is_int (aCons (eBin gIx (eVar 0) (eC (.int 0))) aNil)))) (tBool (eBin gLt (eBin gIx (eVar 0) (eC (.int 0))) (eC (.int 1)))))) [some (.sh (.tuple xs))] B = .ok (!true || (true || true)) B :=
        orT (notT t0) fun _ => orT t1 (b := true) fun h => nomatch h
      refine fn_rt (ρ := [some (.sh (.tuple xs))]) rfl ?_
      rw [seq_rt (by rw [if_t c]; exact ret_ok rfl)]
      match xs, h2 with
      | [], _ => rfl
      | [_], _ => rfl
      | [_, _], h2 => exact absurd rfl h2
      | _ :: _ :: _ :: _, _ => rfl
  | _ => rfl
/-! ### trains -/
def prt : PyData → PyData
  | .tuple [_, r] => r
  | _ => .none
def rTr (a b : PyData) : Bool := PyData.eqv (endR (prt a)) (begR (prt b))
abbrev trainB : PyData → Bool := seqB partB rTr
theorem part_shape {d : PyData} (h : partB d = true) : ∃ n r, d = .tuple [n, r] ∧ rowB r = true := by
  unfold partB at h
  split at h
  · simp only [Bool.and_eq_true] at h
    exact ⟨_, _, rfl, h.2.1⟩
  · cases h
theorem is_train_eq {d : PyData} (B : Bag) (h : d.bulk ≤ 100000) : m_is_train [.sh d] B = .ok (.sh (.bool (trainB d))) B :=
  zip_core m_is_part partB _ rTr (fun d B h => is_part_eq B h) (fun x a b B ha hb => by
    obtain ⟨n, r, rfl, hr⟩ := part_shape ha
    obtain ⟨n', r', rfl, hr'⟩ := part_shape hb
    obtain ⟨_, y, _, ey⟩ := row_ends_str hr
    obtain ⟨x', _, ex, _⟩ := row_ends_str hr'
    have e1 : eCall 1 m_row_ends (aCons (eBin gIx (eVar 1) (eC (.int 1))) aNil) [some (.sh x), some (.sh (.tuple [n, r])), some (.sh (.tuple [n', r']))] B = .ok (.sh (.tuple [begR r, endR r])) B := callA (es := [.sh r]) rfl rfl (row_ends_eq hr B)
    have e2 : eCall 1 m_row_ends (aCons (eBin gIx (eVar 2) (eC (.int 1))) aNil) [some (.sh x), some (.sh (.tuple [n, r])), some (.sh (.tuple [n', r']))] B = .ok (.sh (.tuple [begR r', endR r'])) B := callA (es := [.sh r']) rfl rfl (row_ends_eq hr' B)
    exact bin_ok (bin_ok e1 (e2 := .sh (.int 1)) rfl rfl rfl rfl) (bin_ok e2 (e2 := .sh (.int 0)) rfl rfl rfl rfl) rfl rfl (eq_strs ey ex).1) B h
end K14
namespace K14
open PySem PySem.Spec PyProof.Rows L2 Mr
theorem coup_map (R : PyData → PyData → Bool) (f : PyData → PyData) : ∀ xs : List PyData, coupG R (xs.map f) = coupG (fun a b => R (f a) (f b)) xs
  | [] => rfl
  | [_] => rfl
  | a :: b :: r => by
    have ih := coup_map R f (b :: r)
    simp only [List.map_cons, coupG] at ih ⊢
    rw [ih]
def rBr : PyData → PyData → Bool
  | .tuple [_, e], .tuple [b, _] => PyData.eqv e b
  | _, _ => true
def brd (p : PyData) : PyData := .tuple [begR (prt p), endR (prt p)]
theorem l_is_train_eq {d : PyData} (B : Bag) (h : d.bulk ≤ 100000) : m_L_is_train [.sh d] B = .ok (.sh (.bool (trainB d))) B := by
  cases d with
  | list xs =>
    obtain ⟨hl, hb⟩ := bulk_len h
    have t0 : tVal (eUn (gIsi "list") (eVar 0)) [some (.sh (.list xs)), none, none, none, none, none] B = .ok true B := rfl
    have t1 : tBool (eBin gEqN (eVar 0) (eLst aNil)) [some (.sh (.list xs)), none, none, none, none, none] B = .ok xs.isEmpty B := boolT (bin_ok (e1 := .sh (.list xs)) rfl nil_ok rfl rfl rfl)
    have f2 := filt_ok (vs := [5]) (mi := iVal (eVar 0)) (f := fName 5) (tt := tNotM (tVal (eCall 1 m_L_is_part (aCons (eVar 5) aNil)))) (me := eVar 5) (ρ := [some (.sh (.list xs)), none, none, none, none, none]) (B := B) (ds := xs) id partB rfl rfl hl
      (fun d hd => ⟨[some (.sh (.list xs)), none, none, none, none, some (.sh d)], .sh d, rfl, notT (valT (call1 (m := eVar 5) rfl (l_is_part_eq B (hb d hd)))), rfl, rfl⟩)
    have t2 : tBool (eBin gNeN (eComp [5] (iVal (eVar 0)) (fName 5) (tNotM (tVal (eCall 1 m_L_is_part (aCons (eVar 5) aNil)))) (eVar 5)) (eLst aNil)) [some (.sh (.list xs)), none, none, none, none, none] B = .ok (!xs.all partB) B := by
      refine boolT (bin_ok f2 nil_ok rfl rfl ?_)
      simp only [gNeN, filt_all]
    have c := orT (notT t0) fun _ => orT t1 fun _ => t2
    refine fn_rt (ρ := [some (.sh (.list xs)), none, none, none, none, none]) rfl ?_
    cases he : xs.isEmpty with
    | true =>
      rw [he] at c
      rw [seq_rt (by rw [if_t c]; exact ret_ok rfl)]
      simp [seqB, he]
    | false =>
      cases ha : xs.all partB with
      | false =>
        rw [he, ha] at c
        rw [seq_rt (by rw [if_t c]; exact ret_ok rfl)]
        simp [seqB, he, ha]
      | true =>
        rw [he, ha] at c
        rw [seq_nx (by rw [if_f c]; rfl)]
        have pa : ∀ d ∈ xs, partB d = true := List.all_eq_true.mp ha
        have cm := compL_map (f := fTup 2 (fCons (fName 2) (fCons (fName 3) fNil))) (me := eTup (aCons (eCall 1 m_L_begin (aCons (eBin gIx (eVar 3) (eC (.int 0))) aNil)) (aCons (eCall 1 m_L_end (aCons (eBin gIx (eVar 3) (eUn gNeg (eC (.int 1)))) aNil)) aNil))) brd xs [some (.sh (.list xs)), none, none, none, none, none] [] B (by rw [List.length_nil, Nat.zero_add]; exact sz hl) (fun d hd => by
          obtain ⟨n, r, rfl, hr⟩ := part_shape (pa d hd)
          obtain ⟨a, b, h1, h2, ha, hb, e1, e2⟩ := row_ix hr
          refine ⟨[some (.sh (.list xs)), none, some (.sh n), some (.sh r), none, none], .sh (brd (.tuple [n, r])), rfl, ?_, rfl⟩
          refine tup_ok (es := [.sh (begR r), .sh (endR r)]) (cons_ok (call1 (bin_ok (e1 := .sh r) (e2 := .sh (.int 0)) rfl rfl rfl rfl h1) (l_begin_eq ha B)) ?_ (cons_ok (call1 (bin_ok (e1 := .sh r) rfl neg1 rfl rfl h2) (l_end_eq hb B)) ?_ rfl)) rfl (by simp)
          · rw [e1]; rfl
          · rw [e2]; rfl)
        have st : sSetS 1 (eComp [2, 3] (iVal (eVar 0)) (fTup 2 (fCons (fName 2) (fCons (fName 3) fNil))) tYesM (eTup (aCons (eCall 1 m_L_begin (aCons (eBin gIx (eVar 3) (eC (.int 0))) aNil)) (aCons (eCall 1 m_L_end (aCons (eBin gIx (eVar 3) (eUn gNeg (eC (.int 1)))) aNil)) aNil)))) [some (.sh (.list xs)), none, none, none, none, none] B
            = .ok (.nx [some (.sh (.list xs)), some (.sh (.list (xs.map brd))), none, none, none, none]) B :=
          setS_ok (e := .ow (.list (xs.map brd))) (comp_ok rfl rfl cm) (by simp)
        rw [seq_nx st]
        have z := ix_core (vs := [4]) (j := 4) (i := 1) (tt := tBool (eBin gNe (eBin gIx (eBin gIx (eVar 1) (eBin gSub (eVar 4) (eC (.int 1)))) (eC (.int 1))) (eBin gIx (eBin gIx (eVar 1) (eVar 4)) (eC (.int 0))))) (R := rBr) (ρ := [some (.sh (.list xs)), some (.sh (.list (xs.map brd))), none, none, none, none]) (B := B) (xs := xs.map brd) (by rw [List.length_map]; exact hl) rfl rfl (by simp [wipeE]) (fun k a b h1 h2 => by
          have ma := List.mem_of_getElem? h1
          have mb := List.mem_of_getElem? h2
          simp only [List.mem_map] at ma mb
          obtain ⟨p, hp, rfl⟩ := ma
          obtain ⟨q, hq, rfl⟩ := mb
          obtain ⟨n, r, rfl, hr⟩ := part_shape (pa p hp)
          obtain ⟨n', r', rfl, hr'⟩ := part_shape (pa q hq)
          obtain ⟨_, y, _, ey⟩ := row_ends_str hr
          obtain ⟨x', _, ex, _⟩ := row_ends_str hr'
          have ek : ((k + 1 : Nat) : Int) - 1 = (k : Int) := by omega
          have m1 : eBin gSub (eVar 4) (eC (.int 1)) [some (.sh (.list xs)), some (.sh (.list (xs.map brd))), none, none, some (.sh (.int ((k + 1 : Nat) : Int))), none] B = .ok (.sh (.int (k : Int))) B := by
            refine bin_ok (e1 := .sh (.int ((k + 1 : Nat) : Int))) (e2 := .sh (.int 1)) rfl rfl rfl rfl ?_
            show some (EV.sh (.int (((k + 1 : Nat) : Int) - 1))) = _
            rw [ek]
          have a1 : eBin gIx (eVar 1) (eBin gSub (eVar 4) (eC (.int 1))) [some (.sh (.list xs)), some (.sh (.list (xs.map brd))), none, none, some (.sh (.int ((k + 1 : Nat) : Int))), none] B = .ok (.sh (brd (.tuple [n, r]))) B := bin_ok (e1 := .sh (.list (xs.map brd))) rfl m1 rfl rfl (ixI_nat _ k h1)
          have a2 : eBin gIx (eVar 1) (eVar 4) [some (.sh (.list xs)), some (.sh (.list (xs.map brd))), none, none, some (.sh (.int ((k + 1 : Nat) : Int))), none] B = .ok (.sh (brd (.tuple [n', r']))) B := bin_ok (e1 := .sh (.list (xs.map brd))) (e2 := .sh (.int ((k + 1 : Nat) : Int))) rfl rfl rfl rfl (ixI_nat _ (k + 1) h2)
          exact boolT (bin_ok (bin_ok a1 (e2 := .sh (.int 1)) rfl rfl rfl rfl) (bin_ok a2 (e2 := .sh (.int 0)) rfl rfl rfl rfl) rfl rfl (eq_strs ey ex).2))
        rw [ret_ok z, coup_map]
        simp only [seqB, he, ha, Bool.not_false, Bool.true_and]
        rfl
  | _ => rfl
end K14
namespace K14
open PySem PySem.Spec PyProof.Rows L2 Mr
theorem stp_end {d : PyData} (h : Stp d) (B : Bag) : m_L_end [.sh d] B = .ok (.sh (endD d)) B ∧ ∃ y, endD d = .str y ∧ Kd (.str y) := by
  obtain ⟨x, y, t, u, rfl, hx, hy⟩ := h
  cases u
  · exact ⟨rfl, y, rfl, hy⟩
  · exact ⟨rfl, x, rfl, hx⟩
theorem add1 (r : Nat) : gAdd (.int 1) (.int (r : Int)) = some (.sh (.int ((r + 1 : Nat) : Int))) := by
  show some (EV.sh (.int (1 + (r : Int)))) = _
  congr 3
  omega
theorem rangeD0_length (n : Nat) : (rangeD 0 (n : Int)).length = n := by
  unfold rangeD
  rw [List.length_map, List.length_range]
  omega
theorem app_ok {i : Nat} {m : EM} {ρ : Mr.Env} {B B1 : Bag} {e : EV} {d : PyData} {ds : List PyData} (h : m ρ B = .ok e B1) (hd : e.data = some d) (hi : ρ[i]? = some (some (.ow (.list ds)))) (hl : ds.length ≤ 1000) : sApp i m ρ B = .ok (.nx (ρ.set i (some (.ow (.list (ds ++ [d])))))) B1 := by
  unfold sApp
  rw [h, bind_ok, hd, hi]
  exact if_pos (Nat.lt_of_lt_of_le (Nat.lt_succ_of_le hl) (sz (by decide)))
abbrev rF (ks : List PyData) (x : Str) (n : Nat) (o : Option EV) (x5 x6 : Option EV) : Mr.Env := [some .bg, some (.sh (.list ks)), some (.sh (.str x)), some (.sh (.int (n : Int))), o, x5, x6]
/-- a drawn row -/
theorem row_from_yl {B : Bag} (ok : BagOk B) {ks : List PyData} (hk : ∀ d ∈ ks, Kd d) (ne : ks ≠ []) (hl : ks.length < 2 ^ 32) {x : Str} (hx : Kd (.str x)) (n : Nat) (h0 : 0 < n) (hn : n ≤ 8) :
    ∃ ds B', m_L_row_from [.bg, .sh (.list ks), .sh (.str x), .sh (.int (n : Int))] B = .ok (.ow (.list ds)) B' ∧ BagOk B' ∧ ds ≠ [] ∧ ds.length ≤ n ∧ ∀ d ∈ ds, Stp d := by
  obtain ⟨r, B1, t1, ok1, hr⟩ := takeN ok n h0 (Nat.lt_of_le_of_lt hn (by decide))
  have s4 : sSet 4 (eLst aNil) (rF ks x n none none none) B = .ok (.nx (rF ks x n (some (.ow (.list []))) none none)) B := rfl
  have it : iRange (aCons (eBin gAdd (eC (.int 1)) (eCall 2 m_L_take (aCons (eVar 0) (aCons (eVar 3) aNil)))) aNil) (rF ks x n (some (.ow (.list []))) none none) B = .ok (rangeD 0 ((r + 1 : Nat) : Int)) B1 :=
    iRange_ok (n := r + 1) (bin_ok (e1 := .sh (.int 1)) (B1 := B) rfl (callA (es := [.bg, .sh (.int (n : Int))]) rfl rfl t1) rfl rfl (add1 r)) (by omega)
  obtain ⟨ρ', B', h1, ok', y, ds, x5, x6, rfl, hy, hds, hst⟩ := forL_ix (f := fName 5) (body := sSeq (sSetS 6 (eCall 2 m_L_one (aCons (eVar 0) (aCons (eVar 1) aNil))))
  (sSeq (sApp 4 (eCall 3 m_L_step_on (aCons (eVar 0) (aCons (eVar 2) (aCons (eVar 6) aNil)))))
  (sSetS 2 (eVar 6)))) (fun k ρ B => BagOk B ∧ ∃ y ds x5 x6, ρ = rF ks y n (some (.ow (.list ds))) x5 x6 ∧ Kd (.str y) ∧ ds.length = k ∧ ∀ d ∈ ds, Stp d) (rangeD 0 ((r + 1 : Nat) : Int)) 0 (fun j q hq ρ B hI => by
      obtain ⟨okI, y, ds, x5, x6, rfl, hy, hds, hst⟩ := hI
      have hj : j < r + 1 := by
        obtain ⟨h, _⟩ := List.getElem?_eq_some_iff.mp hq
        rwa [rangeD0_length] at h
      refine ⟨rF ks y n (some (.ow (.list ds))) (some (.sh q)) x6, rfl, ?_⟩
      obtain ⟨a, B2, e2, ok2, ha⟩ := eOne okI (ρ := rF ks y n (some (.ow (.list ds))) (some (.sh q)) x6) (j := 0) (m := eVar 1) rfl (ds := ks) (e := .sh (.list ks)) rfl rfl ne hl
      have ka := hk a ha
      obtain ⟨z, rfl, _, _⟩ := id ka
      obtain ⟨st, B3, e3, ok3, hs⟩ := step_on_yl ok2 hy ka
      have s6 : sSetS 6 (eCall 2 m_L_one (aCons (eVar 0) (aCons (eVar 1) aNil))) (rF ks y n (some (.ow (.list ds))) (some (.sh q)) x6) B = .ok (.nx (rF ks y n (some (.ow (.list ds))) (some (.sh q)) (some (.sh (.str z))))) B2 := setS_ok e2 (by simp)
      have s7 : sApp 4 (eCall 3 m_L_step_on (aCons (eVar 0) (aCons (eVar 2) (aCons (eVar 6) aNil)))) (rF ks y n (some (.ow (.list ds))) (some (.sh q)) (some (.sh (.str z)))) B2 = .ok (.nx (rF ks y n (some (.ow (.list (ds ++ [st])))) (some (.sh q)) (some (.sh (.str z))))) B3 :=
        app_ok (callA (es := [.bg, .sh (.str y), .sh (.str z)]) rfl rfl e3) rfl rfl (by omega)
      refine ⟨rF ks z n (some (.ow (.list (ds ++ [st])))) (some (.sh q)) (some (.sh (.str z))), B3, ?_, ok3, z, ds ++ [st], _, _, rfl, ka, by simp [hds], fun d hd => ?_⟩
      · rw [seq_nx s6, seq_nx s7]; rfl
      · rcases List.mem_append.mp hd with h | h
        · exact hst d h
        · rw [List.mem_singleton.mp h]; exact hs) (rF ks x n (some (.ow (.list []))) none none) B1 ⟨ok1, x, [], none, none, rfl, hx, rfl, by simp⟩
  rw [rangeD0_length, Nat.zero_add] at hds
  have nd : ds ≠ [] := fun e => by rw [e] at hds; cases hds
  refine ⟨ds, B', ?_, ok', nd, by omega, hst⟩
  refine fn_rt (ρ := rF ks x n none none none) rfl ?_
  rw [seq_nx s4]
  have f : sFor (iRange (aCons (eBin gAdd (eC (.int 1)) (eCall 2 m_L_take (aCons (eVar 0) (aCons (eVar 3) aNil)))) aNil)) (fName 5) (sSeq (sSetS 6 (eCall 2 m_L_one (aCons (eVar 0) (aCons (eVar 1) aNil))))
  (sSeq (sApp 4 (eCall 3 m_L_step_on (aCons (eVar 0) (aCons (eVar 2) (aCons (eVar 6) aNil)))))
  (sSetS 2 (eVar 6)))) (rF ks x n (some (.ow (.list []))) none none) B = .ok (.nx (rF ks y n (some (.ow (.list ds))) x5 x6)) B' := by
    unfold sFor
    rw [it, bind_ok]
    exact h1
  rw [seq_nx f]
  rfl
theorem last_of {ds : List PyData} (h : ds ≠ []) : ∃ y ∈ ds, atI ds (-1) = some y := by
  refine ⟨ds.getLast h, List.getLast_mem h, ?_⟩
  conv => lhs; rw [← List.dropLast_concat_getLast h]
  exact atI_last _ _
/-- a drawn round -/
theorem round_yl {B : Bag} (ok : BagOk B) {ks : List PyData} (hk : ∀ d ∈ ks, Kd d) (ne : ks ≠ []) (hl : ks.length < 2 ^ 32) {x : Str} (hx : Kd (.str x)) (n : Nat) (h0 : 0 < n) (hn : n ≤ 8) :
    ∃ ds B', m_L_round [.bg, .sh (.list ks), .sh (.str x), .sh (.int (n : Int))] B = .ok (.ow (.list ds)) B' ∧ BagOk B' ∧ ds ≠ [] ∧ ds.length ≤ n + 1 ∧ ∀ d ∈ ds, Stp d := by
  obtain ⟨ds, B1, e1, ok1, nd, ld, sd⟩ := row_from_yl ok hk ne hl hx n h0 hn
  obtain ⟨y, my, hy⟩ := last_of nd
  obtain ⟨ee, z, ez, kz⟩ := stp_end (sd y my) B1
  have s4 : sSet 4 (eCall 4 m_L_row_from (aCons (eVar 0) (aCons (eVar 1) (aCons (eVar 2) (aCons (eVar 3) aNil))))) [some .bg, some (.sh (.list ks)), some (.sh (.str x)), some (.sh (.int (n : Int))), none] B = .ok (.nx [some .bg, some (.sh (.list ks)), some (.sh (.str x)), some (.sh (.int (n : Int))), some (.ow (.list ds))]) B1 := by
    have cl : eCall 4 m_L_row_from (aCons (eVar 0) (aCons (eVar 1) (aCons (eVar 2) (aCons (eVar 3) aNil)))) [some .bg, some (.sh (.list ks)), some (.sh (.str x)), some (.sh (.int (n : Int))), none] B = .ok (.ow (.list ds)) B1 :=
      callA (es := [.bg, .sh (.list ks), .sh (.str x), .sh (.int (n : Int))]) rfl rfl e1
    unfold sSet
    rw [cl, bind_ok]
    rfl
  have ixv : eIxV 4 (eUn gNeg (eC (.int 1))) [some .bg, some (.sh (.list ks)), some (.sh (.str x)), some (.sh (.int (n : Int))), some (.ow (.list ds))] B1 = .ok (.sh y) B1 := by
    show liftO ((atI ds (-1)).map EV.sh) B1 = _
    rw [hy]; rfl
  have le : eCall 1 m_L_end (aCons (eIxV 4 (eUn gNeg (eC (.int 1)))) aNil) [some .bg, some (.sh (.list ks)), some (.sh (.str x)), some (.sh (.int (n : Int))), some (.ow (.list ds))] B1 = .ok (.sh (.str z)) B1 := by
    rw [← ez]; exact call1 ixv ee
  have c : tBool (eBin gNe (eCall 1 m_L_end (aCons (eIxV 4 (eUn gNeg (eC (.int 1)))) aNil)) (eVar 2)) [some .bg, some (.sh (.list ks)), some (.sh (.str x)), some (.sh (.int (n : Int))), some (.ow (.list ds))] B1 = .ok (!PyData.eqv (.str z) (.str x)) B1 :=
    boolT (bin_ok le (e2 := .sh (.str x)) rfl rfl rfl (eq_strs rfl rfl).2)
  cases hq : PyData.eqv (.str z) (.str x) with
  | true =>
    rw [hq] at c
    refine ⟨ds, B1, ?_, ok1, nd, by omega, sd⟩
    refine fn_rt (ρ := [some .bg, some (.sh (.list ks)), some (.sh (.str x)), some (.sh (.int (n : Int))), none]) rfl ?_
    rw [seq_nx s4, seq_nx (by rw [if_f c]; rfl)]
    rfl
  | false =>
    rw [hq] at c
    obtain ⟨st, B3, e3, ok3, hs⟩ := step_on_yl ok1 kz hx
    have ap : sApp 4 (eCall 3 m_L_step_on (aCons (eVar 0) (aCons (eCall 1 m_L_end (aCons (eIxV 4 (eUn gNeg (eC (.int 1)))) aNil)) (aCons (eVar 2) aNil)))) [some .bg, some (.sh (.list ks)), some (.sh (.str x)), some (.sh (.int (n : Int))), some (.ow (.list ds))] B1 = .ok (.nx [some .bg, some (.sh (.list ks)), some (.sh (.str x)), some (.sh (.int (n : Int))), some (.ow (.list (ds ++ [st])))]) B3 :=
      app_ok (callA (es := [.bg, .sh (.str z), .sh (.str x)]) (cons_ok (e := .bg) (B1 := B1) rfl rfl (cons_ok le rfl rfl)) rfl e3) rfl rfl (by omega)
    refine ⟨ds ++ [st], B3, ?_, ok3, by simp, by simp; omega, fun d hd => ?_⟩
    · refine fn_rt (ρ := [some .bg, some (.sh (.list ks)), some (.sh (.str x)), some (.sh (.int (n : Int))), none]) rfl ?_
      rw [seq_nx s4, seq_nx (by rw [if_t c]; exact ap)]
      rfl
    · rcases List.mem_append.mp hd with h | h
      · exact sd d h
      · rw [List.mem_singleton.mp h]; exact hs
end K14
namespace K14
open PySem PySem.Spec PyProof.Rows L2 Mr
/-- a drawn part -/
def Prt (d : PyData) : Prop := ∃ (i : Int) (r : List PyData), d = .tuple [.int i, .list r] ∧ Gd 0 0 (.int i) ∧ r ≠ [] ∧ r.length ≤ 4 ∧ ∀ s ∈ r, Stp s
abbrev rT (ks : List PyData) (x3 : Option EV) (x : Str) (ds : List PyData) : Mr.Env := [some .bg, some (.sh (.list ks)), some (.sh (.int 6)), x3, some (.sh (.str x)), some (.ow (.list ds))]
theorem turn_part {B : Bag} (ok : BagOk B) {ks : List PyData} (hk : ∀ d ∈ ks, Kd d) (ne : ks ≠ []) (hl : ks.length < 2 ^ 32) {x : Str} (hx : Kd (.str x)) {ds : List PyData} (hds : ds.length ≤ 100) (hp : ∀ d ∈ ds, Prt d) {x3 : Option EV} :
    ∃ y p B', (sIf (tBool (eBin gEq (eCall 2 m_L_take (aCons (eVar 0) (aCons (eC (.int 2)) aNil))) (eC (.int 0))))
  (sApp 5 (eTup (aCons (eCall 1 m_L_number (aCons (eVar 0) aNil)) (aCons (eCall 4 m_L_round (aCons (eVar 0) (aCons (eVar 1) (aCons (eVar 4) (aCons (eC (.int 3)) aNil))))) aNil)))) (sSeq (sApp 5 (eTup (aCons (eC (.int 1)) (aCons (eCall 4 m_L_row_from (aCons (eVar 0) (aCons (eVar 1) (aCons (eVar 4) (aCons (eC (.int 4)) aNil))))) aNil))))
  (sSetS 4 (eCall 1 m_L_end (aCons (eBin gIx (eBin gIx (eIxV 5 (eUn gNeg (eC (.int 1)))) (eC (.int 1))) (eUn gNeg (eC (.int 1)))) aNil))))) (rT ks x3 x ds) B = .ok (.nx (rT ks x3 y (ds ++ [p]))) B' ∧ BagOk B' ∧ Kd (.str y) ∧ Prt p := by
  obtain ⟨way, B1, t1, ok1, hw⟩ := eTake ok (ρ := rT ks x3 x ds) (j := 0) rfl 2 (by decide) (by decide)
  have c : tBool (eBin gEq (eCall 2 m_L_take (aCons (eVar 0) (aCons (eC (.int 2)) aNil))) (eC (.int 0))) (rT ks x3 x ds) B = .ok (decide (way = 0)) B1 :=
    boolT (bin_ok t1 (show eC (.int 0) _ B1 = .ok (.sh (.int ((0 : Nat) : Int))) B1 from rfl) rfl rfl (eq_nat way 0))
  by_cases w : way = 0
  · rw [decide_eq_true w] at c
    obtain ⟨i, B2, e2, ok2, gi⟩ := number_yl ok1
    obtain ⟨r, B3, e3, ok3, nr, lr, sr⟩ := round_yl ok2 hk ne hl hx 3 (by decide) (by decide)
    refine ⟨x, .tuple [.int i, .list r], B3, ?_, ok3, hx, i, r, rfl, gi, nr, lr, sr⟩
    rw [if_t c]
    exact app_ok (tup_ok (es := [.sh (.int i), .sh (.list r)]) (cons_ok (callA (es := [.bg]) rfl rfl e2) rfl (cons_ok (callA (es := [.bg, .sh (.list ks), .sh (.str x), .sh (.int ((3 : Nat) : Int))]) rfl rfl e3) rfl rfl)) rfl (by simp)) rfl rfl (by omega)
  · rw [decide_eq_false w] at c
    obtain ⟨r, B3, e3, ok3, nr, lr, sr⟩ := row_from_yl ok1 hk ne hl hx 4 (by decide) (by decide)
    obtain ⟨s, ms, hs⟩ := last_of nr
    obtain ⟨ee, z, ez, kz⟩ := stp_end (sr s ms) B3
    have g1 : Gd 0 0 (.int 1) := Gd.int (by decide)
    refine ⟨z, .tuple [.int 1, .list r], B3, ?_, ok3, kz, 1, r, rfl, g1, nr, lr, sr⟩
    have ap : sApp 5 (eTup (aCons (eC (.int 1)) (aCons (eCall 4 m_L_row_from (aCons (eVar 0) (aCons (eVar 1) (aCons (eVar 4) (aCons (eC (.int 4)) aNil))))) aNil))) (rT ks x3 x ds) B1 = .ok (.nx (rT ks x3 x (ds ++ [.tuple [.int 1, .list r]]))) B3 :=
      app_ok (tup_ok (es := [.sh (.int 1), .sh (.list r)]) (cons_ok (e := .sh (.int 1)) (B1 := B1) rfl rfl (cons_ok (callA (es := [.bg, .sh (.list ks), .sh (.str x), .sh (.int ((4 : Nat) : Int))]) rfl rfl e3) rfl rfl)) rfl (by simp)) rfl rfl (by omega)
    have i5 : eIxV 5 (eUn gNeg (eC (.int 1))) (rT ks x3 x (ds ++ [.tuple [.int 1, .list r]])) B3 = .ok (.sh (.tuple [.int 1, .list r])) B3 := by
      show liftO ((atI (ds ++ [.tuple [.int 1, .list r]]) (-1)).map EV.sh) B3 = _
      rw [atI_last]; rfl
    have i6 : eBin gIx (eIxV 5 (eUn gNeg (eC (.int 1)))) (eC (.int 1)) (rT ks x3 x (ds ++ [.tuple [.int 1, .list r]])) B3 = .ok (.sh (.list r)) B3 := bin_ok i5 (e2 := .sh (.int 1)) rfl rfl rfl rfl
    have gl : gIx (.list r) (.int (-1)) = some (.sh s) := by simp only [gIx, hs, Option.map_some]
    have st : sSetS 4 (eCall 1 m_L_end (aCons (eBin gIx (eBin gIx (eIxV 5 (eUn gNeg (eC (.int 1)))) (eC (.int 1))) (eUn gNeg (eC (.int 1)))) aNil)) (rT ks x3 x (ds ++ [.tuple [.int 1, .list r]])) B3 = .ok (.nx (rT ks x3 z (ds ++ [.tuple [.int 1, .list r]]))) B3 := by
      have cl := call1 (bin_ok i6 neg1 rfl rfl gl) ee
      rw [ez] at cl
      exact setS_ok cl (by simp)
    rw [if_f c, seq_nx ap]
    exact st
/-- a drawn train -/
theorem train_yl {B : Bag} (ok : BagOk B) {ks : List PyData} (hk : ∀ d ∈ ks, Kd d) (ne : ks ≠ []) (hl : ks.length < 2 ^ 32) :
    ∃ ds B', m_L_train [.bg, .sh (.list ks), .sh (.int 6)] B = .ok (.ow (.list ds)) B' ∧ BagOk B' ∧ ds ≠ [] ∧ ds.length ≤ 6 ∧ ∀ d ∈ ds, Prt d := by
  obtain ⟨a, B1, e1, ok1, ha⟩ := eOne ok (ρ := [some .bg, some (.sh (.list ks)), some (.sh (.int 6)), none, none, none]) (j := 0) (m := eVar 1) rfl (ds := ks) (e := .sh (.list ks)) rfl rfl ne hl
  have ka := hk a ha
  obtain ⟨x, rfl, _, _⟩ := id ka
  have par : sFrzA [4] (sPar2 4 5 (eCall 2 m_L_one (aCons (eVar 0) (aCons (eVar 1) aNil))) (eLst aNil)) [some .bg, some (.sh (.list ks)), some (.sh (.int 6)), none, none, none] B = .ok (.nx (rT ks none x [])) B1 := by
    unfold sFrzA sPar2
    rw [e1, bind_ok]
    rfl
  obtain ⟨r, B2, t2, ok2, hr⟩ := takeN ok1 6 (by decide) (by decide)
  have it : iRange (aCons (eBin gAdd (eC (.int 1)) (eCall 2 m_L_take (aCons (eVar 0) (aCons (eVar 2) aNil)))) aNil) (rT ks none x []) B1 = .ok (rangeD 0 ((r + 1 : Nat) : Int)) B2 :=
    iRange_ok (n := r + 1) (bin_ok (e1 := .sh (.int 1)) (B1 := B1) rfl (callA (es := [.bg, .sh (.int ((6 : Nat) : Int))]) rfl rfl t2) rfl rfl (add1 r)) (by omega)
  obtain ⟨ρ', B', h1, ok', y, ds, x3, rfl, hy, hds, hst⟩ := forL_ix (f := fName 3) (body := (sIf (tBool (eBin gEq (eCall 2 m_L_take (aCons (eVar 0) (aCons (eC (.int 2)) aNil))) (eC (.int 0))))
  (sApp 5 (eTup (aCons (eCall 1 m_L_number (aCons (eVar 0) aNil)) (aCons (eCall 4 m_L_round (aCons (eVar 0) (aCons (eVar 1) (aCons (eVar 4) (aCons (eC (.int 3)) aNil))))) aNil)))) (sSeq (sApp 5 (eTup (aCons (eC (.int 1)) (aCons (eCall 4 m_L_row_from (aCons (eVar 0) (aCons (eVar 1) (aCons (eVar 4) (aCons (eC (.int 4)) aNil))))) aNil))))
  (sSetS 4 (eCall 1 m_L_end (aCons (eBin gIx (eBin gIx (eIxV 5 (eUn gNeg (eC (.int 1)))) (eC (.int 1))) (eUn gNeg (eC (.int 1)))) aNil)))))) (fun k ρ B => BagOk B ∧ ∃ y ds x3, ρ = rT ks x3 y ds ∧ Kd (.str y) ∧ ds.length = k ∧ ∀ d ∈ ds, Prt d) (rangeD 0 ((r + 1 : Nat) : Int)) 0 (fun j q hq ρ B hI => by
      obtain ⟨okI, y, ds, x3, rfl, hy, hds, hst⟩ := hI
      have hj : j < r + 1 := by
        obtain ⟨h, _⟩ := List.getElem?_eq_some_iff.mp hq
        rwa [rangeD0_length] at h
      refine ⟨rT ks (some (.sh q)) y ds, rfl, ?_⟩
      obtain ⟨z, p, B3, e3, ok3, kz, hp⟩ := turn_part okI hk ne hl hy (ds := ds) (by omega) hst (x3 := some (.sh q))
      refine ⟨_, B3, e3, ok3, z, ds ++ [p], _, rfl, kz, by simp [hds], fun d hd => ?_⟩
      rcases List.mem_append.mp hd with h | h
      · exact hst d h
      · rw [List.mem_singleton.mp h]; exact hp) (rT ks none x []) B2 ⟨ok2, x, [], none, rfl, ka, rfl, by simp⟩
  rw [rangeD0_length, Nat.zero_add] at hds
  have nd : ds ≠ [] := fun e => by rw [e] at hds; cases hds
  refine ⟨ds, B', ?_, ok', nd, by omega, hst⟩
  refine fn_rt (ρ := [some .bg, some (.sh (.list ks)), some (.sh (.int 6)), none, none, none]) rfl ?_
  rw [seq_nx par]
  refine Eq.trans (seq_nx (ρ1 := rT ks x3 y ds) (B1 := B') ?_) rfl
  unfold sFor
  rw [it, bind_ok]
  exact h1
end K14
namespace K14
open PySem PySem.Spec PyProof.Rows L2 Mr
/-! ### the signs of what is shown -/
def Cd (x : Str) : Prop := ∀ c ∈ x.cps.toList, c < 16 ^ 8
theorem Cd.app {x y : Str} (hx : Cd x) (hy : Cd y) : Cd (x ++ y) := by
  have e : (x ++ y).cps = x.cps ++ y.cps := rfl
  intro c hc
  rw [e, Array.toList_append] at hc
  exact (List.mem_append.mp hc).elim (hx c) (hy c)
theorem Cd.lit {x : Str} (h : (x.cps.toList.all fun c => decide (c < 16 ^ 8)) = true) : Cd x := fun c hc => of_decide_eq_true (List.all_eq_true.mp h c hc)
theorem char_lt (c : Char) : c.toNat < 16 ^ 8 := by
  have := c.val.toBitVec.isLt
  exact this
theorem reprChar_cd (q c : Nat) (hc : c < 16 ^ 8) : ∀ z ∈ Builtin.Str.reprChar q c, z < 16 ^ 8 := by
  have hx : ∀ w, ∀ z ∈ List.replicate (w - ((Nat.toDigits 16 c).map Char.toNat).length) 48 ++ (Nat.toDigits 16 c).map Char.toNat, z < 16 ^ 8 := by
    intro w z hz
    rcases List.mem_append.mp hz with h | h
    · rw [(List.mem_replicate.mp h).2]; decide
    · simp only [List.mem_map] at h
      obtain ⟨k, _, rfl⟩ := h
      exact char_lt k
  intro z hz
  unfold Builtin.Str.reprChar at hz
  dsimp only at hz
  repeat' split at hz
  all_goals first
    | (simp only [List.mem_cons, List.not_mem_nil, or_false] at hz
       rcases hz with rfl | rfl <;> first | exact hc | decide)
    | (simp only [List.mem_cons, List.not_mem_nil, or_false] at hz; rw [hz]; exact hc)
    | (rcases List.mem_append.mp hz with h | h
       · simp only [List.mem_cons, List.not_mem_nil, or_false] at h
         rcases h with rfl | rfl <;> decide
       · exact hx _ z h)
theorem fold_cd (q : Nat) : ∀ (l : List Nat) (acc : Array Nat), (∀ c ∈ l, c < 16 ^ 8) → (∀ c ∈ acc.toList, c < 16 ^ 8) → ∀ c ∈ (l.foldl (fun out c => out ++ (Builtin.Str.reprChar q c).toArray) acc).toList, c < 16 ^ 8
  | [], acc, _, ha => ha
  | c :: r, acc, h, ha => by
    refine fold_cd q r _ (fun d hd => h d (List.mem_cons_of_mem _ hd)) fun z hz => ?_
    rw [Array.toList_append] at hz
    rcases List.mem_append.mp hz with h1 | h1
    · exact ha z h1
    · exact reprChar_cd q c (h c (List.mem_cons_self ..)) z h1
theorem quote_cd (x : Str) : reprQuote x < 16 ^ 8 := by
  unfold reprQuote
  repeat' split
  all_goals decide
theorem repr_cd {x : Str} (hx : Cd x) : Cd (reprText x) := by
  intro c hc
  unfold reprText at hc
  have e : ((x.cps.foldl (fun out c => out ++ (Builtin.Str.reprChar (reprQuote x) c).toArray) #[reprQuote x]).push (reprQuote x)).toList = (x.cps.toList.foldl (fun out c => out ++ (Builtin.Str.reprChar (reprQuote x) c).toArray) #[reprQuote x]).toList ++ [reprQuote x] := by
    rw [Array.toList_push, ← Array.foldl_toList]
  have hc' : c ∈ ((x.cps.foldl (fun out c => out ++ (Builtin.Str.reprChar (reprQuote x) c).toArray) #[reprQuote x]).push (reprQuote x)).toList := hc
  rw [e] at hc'
  rcases List.mem_append.mp hc' with h | h
  · refine fold_cd _ _ _ hx (fun z hz => ?_) c h
    have : z = reprQuote x := by simpa using hz
    rw [this]; exact quote_cd x
  · rw [List.mem_singleton.mp h]; exact quote_cd x
theorem join_cd {y : Str} (hy : Cd y) : ∀ {ts : List Str}, (∀ t ∈ ts, Cd t) → Cd (Str.join y ts) := by
  intro ts h c hc
  have e : (Str.join y ts).cps.toList = TL.joinL y.cps.toList (ts.map fun t => t.cps.toList) := TL.tl_join y ts
  rw [e] at hc
  clear e
  induction ts with
  | nil => cases hc
  | cons t ts ih =>
    cases ts with
    | nil => exact h t (List.mem_cons_self ..) c hc
    | cons t2 r =>
      simp only [List.map_cons, TL.joinL] at hc
      rcases List.mem_append.mp hc with h1 | h1
      · exact h t (List.mem_cons_self ..) c h1
      · rcases List.mem_append.mp h1 with h2 | h2
        · exact hy c h2
        · exact ih (fun z hz => h z (List.mem_cons_of_mem _ hz)) h2
theorem from_cd : ∀ (ts : List Str) (k : Nat) (acc : Str), Cd acc → (∀ t ∈ ts, Cd t) → Cd (textFrom k acc ts)
  | [], _, _, ha, _ => ha
  | t :: ts, k, acc, ha, h => by
    refine from_cd ts (k + 1) _ ((ha.app ?_).app (h t (List.mem_cons_self ..))) fun z hz => h z (List.mem_cons_of_mem _ hz)
    split
    · exact Cd.lit (by decide +kernel)
    · exact Cd.lit (by decide +kernel)
theorem ofString_cd (s : String) : Cd (Str.ofString s) := by
  intro c hc
  rw [signs_ofString] at hc
  simp only [List.mem_map] at hc
  obtain ⟨k, _, rfl⟩ := hc
  exact char_lt k
mutual
theorem shown_cd : ∀ d : PyData, d.leavesShort 130 = true → Cd d.shown
  | .none, _ => by simp only [PyData.shown]; exact ofString_cd _
  | .bool b, _ => by simp only [PyData.shown]; cases b <;> exact ofString_cd _
  | .int i, _ => by simp only [PyData.shown]; exact ofString_cd _
  | .str x, h => by
    simp only [PyData.leavesShort, List.all_eq_true, decide_eq_true_eq] at h
    simp only [PyData.shown]
    exact repr_cd h
  | .list xs, h => by
    simp only [PyData.leavesShort] at h
    simp only [PyData.shown, listText]
    exact (from_cd _ _ _ (ofString_cd _) (shownAll_cd xs h)).app (ofString_cd _)
  | .tuple xs, h => by
    simp only [PyData.leavesShort] at h
    simp only [PyData.shown, tupleText]
    exact ((ofString_cd _).app (join_cd (ofString_cd _) (shownAll_cd xs h))).app (ofString_cd _)
  | .dict kvs, h => by
    simp only [PyData.leavesShort] at h
    simp only [PyData.shown, dictText]
    exact ((ofString_cd _).app (join_cd (ofString_cd _) (shownKv_cd kvs h))).app (ofString_cd _)
theorem shownAll_cd : ∀ xs : List PyData, PyData.leavesShortAll 130 xs = true → ∀ t ∈ PyData.shownAll xs, Cd t
  | [], _ => fun t h => by simp only [PyData.shownAll] at h; cases h
  | x :: xs, h => fun t ht => by
    simp only [PyData.leavesShortAll, Bool.and_eq_true] at h
    simp only [PyData.shownAll] at ht
    rcases List.mem_cons.mp ht with rfl | ht
    · exact shown_cd x h.1
    · exact shownAll_cd xs h.2 t ht
theorem shownKv_cd : ∀ xs : List (PyData × PyData), PyData.leavesShortKv 130 xs = true → ∀ t ∈ PyData.shownKv xs, Cd t
  | [], _ => fun t h => by simp only [PyData.shownKv] at h; cases h
  | (k, v) :: xs, h => fun t ht => by
    simp only [PyData.leavesShortKv, Bool.and_eq_true] at h
    simp only [PyData.shownKv] at ht
    rcases List.mem_cons.mp ht with rfl | ht
    · exact ((shown_cd k h.1.1).app (ofString_cd _)).app (shown_cd v h.1.2)
    · exact shownKv_cd xs h.2 t ht
end
/-- [a truth, what is shown], shown itself -/
theorem pair_repr {n m : Nat} {d : PyData} (g : Gd n m d) (hn : n ≤ 9200) (b : Bool) :
    gRepr [.list [.bool b, .str d.shown]] = some (.sh (.str (PyData.list [.bool b, .str d.shown]).shown)) := by
  have h1 := PyData.shown_le_bulk 130 (by decide) d g.lv
  have h2 := g.bk
  have h3 : (130 + 2) * d.bulk ≤ 132 * 9200 := Nat.mul_le_mul_left _ (by omega)
  have cd := shown_cd d g.lv
  have lv : (PyData.list [.bool b, .str d.shown]).leavesShort 8 = true := by
    simp only [PyData.leavesShort, PyData.leavesShortAll, Bool.true_and, Bool.and_true, List.all_eq_true, decide_eq_true_eq]
    exact cd
  have bk : (PyData.list [.bool b, .str d.shown]).bulk = 0 + 1 + (d.shown.cps.size + 1 + 0) := by
    simp only [PyData.bulk, PyData.bulkAll]
  have e : d.shown.cps.size = d.shown.length := rfl
  have fit := PyData.shown_le_bulk 8 (by decide) _ lv
  rw [bk, e] at fit
  have hz : (PyData.list [.bool b, .str d.shown]).shown.length ≤ sizeLine := by
    rw [sizeLine_eq]
    have : (8 + 2) * (0 + 1 + (d.shown.length + 1 + 0)) ≤ 10 * (2 + 1214600) := Nat.mul_le_mul_left _ (by omega)
    omega
  have sw : (PyData.list [.bool b, .str d.shown]).showable = true := by
    simp only [PyData.showable, PyData.showableAll, Bool.and_self]
  have hd : (PyData.list [.bool b, .str d.shown]).hasDict = false := by
    simp only [PyData.hasDict, PyData.hasDictAll, Bool.or_self]
  have dp : (PyData.list [.bool b, .str d.shown]).depth ≤ 60 := by
    simp only [PyData.depth, PyData.depthAll]
    decide
  simp only [gRepr, sw, hd, dp, hz, decide_true, Bool.and_self, Bool.not_false, if_true]
theorem alike_ok {n m : Nat} {d : PyData} (g : Gd n m d) (hn : n ≤ 9200) (b : Bool) (B : Bag) :
    m_L_alike [.sh (.list [.bool b, .str d.shown]), .sh (.list [.bool b, .str d.shown])] B = .ok (.sh (.bool true)) B := by
  have pl : (PyData.list [.bool b, .str d.shown]).plain = true := by
    simp only [PyData.plain, PyData.plainAll, Bool.and_self]
  have dp : (PyData.list [.bool b, .str d.shown]).depth ≤ 60 := by
    simp only [PyData.depth, PyData.depthAll]
    decide
  have okd : okD (PyData.list [.bool b, .str d.shown]) = true := by
    simp only [okD, pl, dp, decide_true, Bool.and_self]
  have rf := SeqAt.eqv_refl_plain _ pl
  have rp := pair_repr g hn b
  generalize hD : PyData.list [.bool b, .str d.shown] = D at okd rf rp
  have q1 : eBin gEq (eVar 0) (eVar 1) [some (.sh D), some (.sh D)] B = .ok (.sh (.bool true)) B := by
    refine bin_ok (e1 := .sh D) (e2 := .sh D) rfl rfl rfl rfl ?_
    simp only [gEq, okd, Bool.and_self, if_true, rf]
  have q2 : eBin gEq (eCB gRepr (aCons (eVar 0) aNil)) (eCB gRepr (aCons (eVar 1) aNil)) [some (.sh D), some (.sh D)] B = .ok (.sh (.bool true)) B := by
    refine bin_ok (cb1_ok (e := .sh D) rfl rfl rp) (cb1_ok (e := .sh D) rfl rfl rp) rfl rfl ?_
    simp only [gEq, okD_str, Bool.and_self, if_true, eqv_str, beq_self_eq_true]
  refine fn_rt (ρ := [some (.sh D), some (.sh D)]) rfl (ret_ok ?_)
  unfold eAnd
  rw [q1, bind_ok]
  show eBin gEq _ _ _ B = _
  exact q2
end K14
namespace K14
open PySem PySem.Spec PyProof.Rows L2 Mr
/-! ### bounds -/
theorem Kd.gd {x : Str} (h : Kd (.str x)) : Gd 8 0 (.str x) := by
  obtain ⟨y, e, h1, h2⟩ := h
  cases e
  exact Gd.str h1 h2
theorem gd_pair {n m n' m' : Nat} {a b : PyData} (ga : Gd n m a) (gb : Gd n' m' b) : Gd (n + n' + 2) (max m m' + 1) (.tuple [a, b]) := by
  refine ⟨?_, ?_, ?_, ?_⟩
  · simp only [PyData.leavesShort, PyData.leavesShortAll, ga.lv, gb.lv, Bool.and_self]
  · simp only [PyData.showable, PyData.showableAll, ga.sw, gb.sw, Bool.and_self]
  · have := ga.bk; have := gb.bk
    simp only [PyData.bulk, PyData.bulkAll]; omega
  · have := ga.dp; have := gb.dp
    simp only [PyData.depth, PyData.depthAll]; omega
theorem stp_gd {d : PyData} (h : Stp d) : Gd 30 2 d := by
  obtain ⟨x, y, t, u, rfl, hx, hy⟩ := h
  have c : Gd 27 1 (.tuple [.str x, .str y, .bool t]) := by
    refine (Gd.tuple (n := 8) (m := 0) (fun d hd => ?_)).mono (by simp) (by decide)
    simp only [List.mem_cons, List.not_mem_nil, or_false] at hd
    rcases hd with rfl | rfl | rfl
    · exact Kd.gd hx
    · exact Kd.gd hy
    · exact Gd.bool.mono (by decide) (by decide)
  exact (gd_pair c Gd.bool).mono (by decide) (by decide)
theorem row_gd {r : List PyData} (hl : r.length ≤ 4) (h : ∀ s ∈ r, Stp s) : Gd 124 3 (.list r) :=
  (Gd.list (n := 30) (m := 2) (fun d hd => stp_gd (h d hd))).mono (by omega) (by decide)
theorem prt_gd {d : PyData} (h : Prt d) : Gd 126 4 d := by
  obtain ⟨i, r, rfl, gi, _, lr, sr⟩ := h
  exact (gd_pair gi (row_gd lr sr)).mono (by decide) (by decide)
theorem list_gd {ds : List PyData} (hl : ds.length ≤ 11) (h : ∀ d ∈ ds, Gd 126 4 d) : Gd 1400 5 (.list ds) :=
  (Gd.list (n := 126) (m := 4) h).mono (by omega) (by decide)
theorem tuple_gd {ds : List PyData} (hl : ds.length ≤ 11) (h : ∀ d ∈ ds, Gd 126 4 d) : Gd 1400 5 (.tuple ds) :=
  (Gd.tuple (n := 126) (m := 4) h).mono (by omega) (by decide)
/-- in another order -/
theorem mixed_yl {B : Bag} (ok : BagOk B) {xs : List PyData} (hl : xs.length ≤ 100) : ∃ ds B', m_L_mixed [.bg, .sh (.list xs)] B = .ok (.ow (.list ds)) B' ∧ BagOk B' ∧ ds.length = xs.length ∧ ∀ d ∈ ds, d ∈ xs := by
  have s2 : sSet 2 (eLst aNil) [some .bg, some (.sh (.list xs)), none, none] B = .ok (.nx [some .bg, some (.sh (.list xs)), some (.ow (.list [])), none]) B := rfl
  obtain ⟨ρ', B', h1, ok', ds, x3, rfl, hds, hm⟩ := forL_ix (f := fName 3) (body := sInsO 2 (eCall 2 m_L_take (aCons (eVar 0) (aCons (eBin gAdd (eScal [2] (eCB gLen (aCons (eVar 2) aNil))) (eC (.int 1))) aNil))) (eVar 3)) (fun k ρ B => BagOk B ∧ ∃ ds x3, ρ = [some .bg, some (.sh (.list xs)), some (.ow (.list ds)), x3] ∧ ds.length = k ∧ ∀ d ∈ ds, d ∈ xs) xs 0 (fun j q hq ρ B hI => by
      obtain ⟨okI, ds, x3, rfl, hds, hm⟩ := hI
      have hj : j < xs.length := (List.getElem?_eq_some_iff.mp hq).1
      refine ⟨[some .bg, some (.sh (.list xs)), some (.ow (.list ds)), some (.sh q)], rfl, ?_⟩
      obtain ⟨r, B2, t2, ok2, hr⟩ := takeN okI (ds.length + 1) (by omega) (Nat.lt_of_le_of_lt (m := 200) (by omega) (by decide))
      have ln : eBin gAdd (eScal [2] (eCB gLen (aCons (eVar 2) aNil))) (eC (.int 1)) [some .bg, some (.sh (.list xs)), some (.ow (.list ds)), some (.sh q)] B = .ok (.sh (.int ((ds.length + 1 : Nat) : Int))) B :=
        bin_ok (e1 := .sh (.int (ds.length : Int))) (e2 := .sh (.int 1)) rfl rfl rfl rfl rfl
      have tk : eCall 2 m_L_take (aCons (eVar 0) (aCons (eBin gAdd (eScal [2] (eCB gLen (aCons (eVar 2) aNil))) (eC (.int 1))) aNil)) [some .bg, some (.sh (.list xs)), some (.ow (.list ds)), some (.sh q)] B = .ok (.sh (.int (r : Int))) B2 :=
        callA (es := [.bg, .sh (.int ((ds.length + 1 : Nat) : Int))]) (cons_ok (e := .bg) (B1 := B) rfl rfl (cons_ok ln rfl rfl)) rfl t2
      have hc : ds.length < sizeLine ∧ (0 : Int) ≤ (r : Int) ∧ (r : Int) < 2 ^ 63 := ⟨by rw [sizeLine_eq]; omega, by omega, by omega⟩
      refine ⟨[some .bg, some (.sh (.list xs)), some (.ow (.list (insD ds (r : Int) q))), some (.sh q)], B2, ?_, ok2, insD ds (r : Int) q, _, rfl, ?_, fun d hd => ?_⟩
      · unfold sInsO
        rw [tk, bind_ok, show eVar 3 [some .bg, some (.sh (.list xs)), some (.ow (.list ds)), some (.sh q)] B2 = .ok (.sh q) B2 from rfl, bind_ok]
        show (if ds.length < sizeLine ∧ (0 : Int) ≤ (r : Int) ∧ (r : Int) < 2 ^ 63 then Out.ok (Flow.nx _) B2 else Out.bad) = _
        rw [if_pos hc]
        rfl
      · unfold insD
        rw [List.length_append, List.length_append, List.length_take, List.length_drop, List.length_singleton]
        omega
      · unfold insD at hd
        rcases List.mem_append.mp hd with hd | hd
        · rcases List.mem_append.mp hd with hd | hd
          · exact hm d (List.mem_of_mem_take hd)
          · rw [List.mem_singleton.mp hd]; exact List.mem_of_getElem? hq
        · exact hm d (List.mem_of_mem_drop hd)) [some .bg, some (.sh (.list xs)), some (.ow (.list [])), none] B ⟨ok, [], none, rfl, rfl, by simp⟩
  rw [Nat.zero_add] at hds
  refine ⟨ds, B', ?_, ok', hds, hm⟩
  refine fn_rt (ρ := [some .bg, some (.sh (.list xs)), none, none]) rfl ?_
  rw [seq_nx s2]
  refine Eq.trans (seq_nx (ρ1 := [some .bg, some (.sh (.list xs)), some (.ow (.list ds)), x3]) (B1 := B') ?_) rfl
  unfold sFor
  rw [show iVal (eVar 1) [some .bg, some (.sh (.list xs)), some (.ow (.list [])), none] B = .ok xs B from rfl, bind_ok]
  exact h1
end K14
namespace K14
open PySem PySem.Spec PyProof.Rows L2 Mr
abbrev r13 (x0 x2 x3 x4 x5 x6 x7 x8 x9 x10 x11 x12 : Option EV) : Mr.Env := [x0, some .bg, x2, x3, x4, x5, x6, x7, x8, x9, x10, x11, x12]
def thingB : SM := (sSeq (sFrzA [11, 12] (sPar2 11 12 (eCB gReprD (aCons (eVar 9) aNil)) (eCall 1 m_L_is_train (aCons (eVar 9) aNil))))
  (sFor (iRange (aCons (eC (.int 2)) aNil)) (fName 10)
  (sIf (tNotM (tVal (eCall 2 m_L_alike (aCons (eLst (aCons (eCall 1 m_is_train (aCons (eVar 9) aNil)) (aCons (eCB gReprD (aCons (eVar 9) aNil)) aNil))) (aCons (eLst (aCons (eVar 12) (aCons (eVar 11) aNil))) aNil)))))
  (sRet (eC (.bool false))) sSkip)))
theorem thing_ok {d : PyData} (g : Gd 9200 60 d) {x0 x2 x3 x4 x5 x6 x7 x8 x10 x11 x12 : Option EV} {B : Bag} :
    ∃ y10 y11 y12, thingB (r13 x0 x2 x3 x4 x5 x6 x7 x8 (some (.sh d)) x10 x11 x12) B = .ok (.nx (r13 x0 x2 x3 x4 x5 x6 x7 x8 (some (.sh d)) y10 y11 y12)) B := by
  have bk : d.bulk ≤ 100000 := by have := g.bk; omega
  have rp := reprD_ok g (by decide) (by decide)
  have rpE : ∀ {y10 y11 y12 : Option EV} {B : Bag}, eCB gReprD (aCons (eVar 9) aNil) (r13 x0 x2 x3 x4 x5 x6 x7 x8 (some (.sh d)) y10 y11 y12) B = .ok (.sh (.str d.shown)) B := fun {_ _ _ _} => cb1_ok (e := .sh d) rfl rfl rp
  have tr : eCall 1 m_L_is_train (aCons (eVar 9) aNil) (r13 x0 x2 x3 x4 x5 x6 x7 x8 (some (.sh d)) x10 x11 x12) B = .ok (.sh (.bool (trainB d))) B := call1 (m := eVar 9) rfl (l_is_train_eq B bk)
  have par : sFrzA [11, 12] (sPar2 11 12 (eCB gReprD (aCons (eVar 9) aNil)) (eCall 1 m_L_is_train (aCons (eVar 9) aNil))) (r13 x0 x2 x3 x4 x5 x6 x7 x8 (some (.sh d)) x10 x11 x12) B = .ok (.nx (r13 x0 x2 x3 x4 x5 x6 x7 x8 (some (.sh d)) x10 (some (.sh (.str d.shown))) (some (.sh (.bool (trainB d)))))) B := by
    unfold sFrzA sPar2
    rw [rpE, bind_ok, tr, bind_ok]
    rfl
  have loop := forL_inv (f := fName 10) (body := (sIf (tNotM (tVal (eCall 2 m_L_alike (aCons (eLst (aCons (eCall 1 m_is_train (aCons (eVar 9) aNil)) (aCons (eCB gReprD (aCons (eVar 9) aNil)) aNil))) (aCons (eLst (aCons (eVar 12) (aCons (eVar 11) aNil))) aNil)))))
  (sRet (eC (.bool false))) sSkip)) (fun ρ' B' => B' = B ∧ ∃ y10, ρ' = r13 x0 x2 x3 x4 x5 x6 x7 x8 (some (.sh d)) y10 (some (.sh (.str d.shown))) (some (.sh (.bool (trainB d))))) (rangeD 0 ((2 : Nat) : Int)) (fun k hk ρ' B' hI => by
      obtain ⟨rfl, y10, rfl⟩ := hI
      refine ⟨r13 x0 x2 x3 x4 x5 x6 x7 x8 (some (.sh d)) (some (.sh k)) (some (.sh (.str d.shown))) (some (.sh (.bool (trainB d)))), rfl, ?_⟩
      have tp : eCall 1 m_is_train (aCons (eVar 9) aNil) (r13 x0 x2 x3 x4 x5 x6 x7 x8 (some (.sh d)) (some (.sh k)) (some (.sh (.str d.shown))) (some (.sh (.bool (trainB d))))) B' = .ok (.sh (.bool (trainB d))) B' := call1 (m := eVar 9) rfl (is_train_eq B' bk)
      have l1 : eLst (aCons (eCall 1 m_is_train (aCons (eVar 9) aNil)) (aCons (eCB gReprD (aCons (eVar 9) aNil)) aNil)) (r13 x0 x2 x3 x4 x5 x6 x7 x8 (some (.sh d)) (some (.sh k)) (some (.sh (.str d.shown))) (some (.sh (.bool (trainB d))))) B' = .ok (.ow (.list [.bool (trainB d), .str d.shown])) B' :=
        lst_ok (cons_ok tp rfl (cons_ok rpE rfl rfl)) rfl (by simp)
      have l2 : eLst (aCons (eVar 12) (aCons (eVar 11) aNil)) (r13 x0 x2 x3 x4 x5 x6 x7 x8 (some (.sh d)) (some (.sh k)) (some (.sh (.str d.shown))) (some (.sh (.bool (trainB d))))) B' = .ok (.ow (.list [.bool (trainB d), .str d.shown])) B' :=
        lst_ok (es := [.sh (.bool (trainB d)), .sh (.str d.shown)]) rfl rfl (by simp)
      have cl : eCall 2 m_L_alike (aCons (eLst (aCons (eCall 1 m_is_train (aCons (eVar 9) aNil)) (aCons (eCB gReprD (aCons (eVar 9) aNil)) aNil))) (aCons (eLst (aCons (eVar 12) (aCons (eVar 11) aNil))) aNil)) (r13 x0 x2 x3 x4 x5 x6 x7 x8 (some (.sh d)) (some (.sh k)) (some (.sh (.str d.shown))) (some (.sh (.bool (trainB d))))) B' = .ok (.sh (.bool true)) B' :=
        callA (cons_ok l1 rfl (cons_ok l2 rfl rfl)) rfl (alike_ok g (by decide) (trainB d) B')
      refine ⟨_, _, ?_, rfl, some (.sh k), rfl⟩
      rw [if_f (notT (valT cl))]
      rfl) (r13 x0 x2 x3 x4 x5 x6 x7 x8 (some (.sh d)) x10 (some (.sh (.str d.shown))) (some (.sh (.bool (trainB d))))) B ⟨rfl, x10, rfl⟩
  obtain ⟨ρ', B', h1, rfl, y10, rfl⟩ := loop
  refine ⟨y10, some (.sh (.str d.shown)), some (.sh (.bool (trainB d))), ?_⟩
  unfold thingB
  rw [seq_nx par]
  unfold sFor
  rw [iRange_ok (n := 2) rfl (by decide), bind_ok]
  exact h1
/-! ### lists put together -/
theorem cutL_sub {α : Type} (xs : List α) (l h : Option Int) : (cutL xs l h).length ≤ xs.length ∧ ∀ d ∈ cutL xs l h, d ∈ xs := by
  unfold cutL
  refine ⟨?_, fun d hd => List.mem_of_mem_drop (List.mem_of_mem_take hd)⟩
  rw [List.length_take, List.length_drop]
  omega
theorem addL {a b : List PyData} (h : a.length + b.length ≤ 1000) : gAdd (.list a) (.list b) = some (.ow (.list (a ++ b))) := by
  simp only [gAdd]
  exact if_pos (sz (by omega))
end K14
namespace K14
open PySem PySem.Spec PyProof.Rows L2 Mr
structure Trn (ds : List PyData) (k : Nat) : Prop where
  ne : ds ≠ []
  len : ds.length ≤ 6
  el : ∀ d ∈ ds, Prt d
  at_ : k < ds.length
abbrev Bd (n : Nat) (ts : List PyData) : Prop := ts.length ≤ n ∧ ∀ d ∈ ts, Gd 9200 60 d
theorem lg {ds : List PyData} (hl : ds.length ≤ 60) (h : ∀ d ∈ ds, Gd 126 4 d) : Gd 9200 60 (.list ds) :=
  (Gd.list (n := 126) (m := 4) h).mono (by omega) (by decide)
theorem lt_ {ds : List PyData} (hl : ds.length ≤ 60) (h : ∀ d ∈ ds, Gd 126 4 d) : Gd 9200 60 (.tuple ds) :=
  (Gd.tuple (n := 126) (m := 4) h).mono (by omega) (by decide)
theorem Trn.gd {ds : List PyData} {k : Nat} (t : Trn ds k) : ∀ d ∈ ds, Gd 126 4 d := fun d hd => prt_gd (t.el d hd)
theorem Trn.at {ds : List PyData} {k : Nat} (t : Trn ds k) : ∃ i r, gIx (.list ds) (.int (k : Int)) = some (.sh (.tuple [.int i, .list r])) ∧ Prt (.tuple [.int i, .list r]) ∧ Gd 124 3 (.list r) := by
  have h := List.getElem?_eq_getElem t.at_
  have hp := t.el _ (List.getElem_mem t.at_)
  have g := ixI_nat ds k h
  obtain ⟨i, r, e, g1, g2, g3, g4⟩ := id hp
  rw [e] at g hp
  exact ⟨i, r, g, hp, row_gd g3 g4⟩
theorem Trn.zero {ds : List PyData} {k : Nat} (t : Trn ds k) : ∃ i r, gIx (.list ds) (.int 0) = some (.sh (.tuple [.int i, .list r])) ∧ Prt (.tuple [.int i, .list r]) ∧ Gd 124 3 (.list r) :=
  Trn.at (k := 0) ⟨t.ne, t.len, t.el, List.length_pos_iff.mpr t.ne⟩
theorem bd_add {a b : List PyData} {n m : Nat} (ha : Bd n a) (hb : Bd m b) : Bd (n + m) (a ++ b) := ⟨by rw [List.length_append]; have := ha.1; have := hb.1; omega, fun d hd => (List.mem_append.mp hd).elim (ha.2 d) (hb.2 d)⟩
theorem bd_cons {d : PyData} {b : List PyData} {m : Nat} (hd : Gd 9200 60 d) (hb : Bd m b) : Bd (m + 1) (d :: b) := ⟨by rw [List.length_cons]; have := hb.1; omega, fun x hx => (List.mem_cons.mp hx).elim (fun e => e ▸ hd) (hb.2 x)⟩
theorem bd_nil : Bd 0 [] := ⟨Nat.le_refl _, by simp⟩
section
variable {x0 x2 x3 x6 x7 x8 x9 x10 x11 x12 : Option EV} {ds : List PyData} {k : Nat} {B : Bag}
theorem cut_lo (t : Trn ds k) : ∃ es, eSl (eVar 4) oNone (oSome (eVar 5)) (r13 x0 x2 x3 (some (.sh (.list ds))) (some (.sh (.int (k : Int)))) x6 x7 x8 x9 x10 x11 x12) B = .ok (.ow (.list es)) B ∧ es.length ≤ 6 ∧ ∀ d ∈ es, Gd 126 4 d := by
  have c := cutL_sub ds none (some (k : Int))
  exact ⟨_, sl_ok (e := .sh (.list ds)) (l := none) rfl rfl (oSome_ok (m := eVar 5) (i := (k : Int)) rfl) rfl rfl, Nat.le_trans c.1 t.len, fun d hd => t.gd d (c.2 d hd)⟩
theorem cut_hi (t : Trn ds k) : ∃ es, eSl (eVar 4) (oSome (eBin gAdd (eVar 5) (eC (.int 1)))) oNone (r13 x0 x2 x3 (some (.sh (.list ds))) (some (.sh (.int (k : Int)))) x6 x7 x8 x9 x10 x11 x12) B = .ok (.ow (.list es)) B ∧ es.length ≤ 6 ∧ ∀ d ∈ es, Gd 126 4 d := by
  have c := cutL_sub ds (some ((k : Int) + 1)) none
  exact ⟨_, sl_ok (e := .sh (.list ds)) (h := none) rfl (oSome_ok (i := (k : Int) + 1) (bin_ok (e1 := .sh (.int (k : Int))) (e2 := .sh (.int 1)) rfl rfl rfl rfl rfl)) rfl rfl rfl, Nat.le_trans c.1 t.len, fun d hd => t.gd d (c.2 d hd)⟩
theorem cut_one (t : Trn ds k) : ∃ es, eSl (eVar 4) (oSome (eVar 5)) (oSome (eBin gAdd (eVar 5) (eC (.int 1)))) (r13 x0 x2 x3 (some (.sh (.list ds))) (some (.sh (.int (k : Int)))) x6 x7 x8 x9 x10 x11 x12) B = .ok (.ow (.list es)) B ∧ es.length ≤ 6 ∧ ∀ d ∈ es, Gd 126 4 d := by
  have c := cutL_sub ds (some (k : Int)) (some ((k : Int) + 1))
  exact ⟨_, sl_ok (e := .sh (.list ds)) rfl (oSome_ok (m := eVar 5) (i := (k : Int)) rfl) (oSome_ok (i := (k : Int) + 1) (bin_ok (e1 := .sh (.int (k : Int))) (e2 := .sh (.int 1)) rfl rfl rfl rfl rfl)) rfl rfl, Nat.le_trans c.1 t.len, fun d hd => t.gd d (c.2 d hd)⟩
theorem cut_first (t : Trn ds k) : ∃ es, eSl (eVar 4) oNone (oSome (eC (.int 1))) (r13 x0 x2 x3 (some (.sh (.list ds))) (some (.sh (.int (k : Int)))) x6 x7 x8 x9 x10 x11 x12) B = .ok (.ow (.list es)) B ∧ es.length ≤ 6 ∧ ∀ d ∈ es, Gd 126 4 d := by
  have c := cutL_sub ds none (some 1)
  exact ⟨_, sl_ok (e := .sh (.list ds)) (l := none) rfl rfl (oSome_ok (m := eC (.int 1)) (i := 1) rfl) rfl rfl, Nat.le_trans c.1 t.len, fun d hd => t.gd d (c.2 d hd)⟩
def q6a : EM := eLst (aCons (eVar 4) (aCons (eCall 2 mm_L_bent (aCons (eVar 1) (aCons (eVar 4) aNil))) (aCons (eCall 2 mm_L_bent (aCons (eVar 1) (aCons (eVar 4) aNil))) (aCons (eBin gAdd (eSl (eVar 4) oNone (oSome (eVar 5))) (eSl (eVar 4) (oSome (eBin gAdd (eVar 5) (eC (.int 1)))) oNone)) aNil))))
theorem q6a_ok (ok : BagOk B) (t : Trn ds k) : ∃ ts B', sSet 6 q6a (r13 x0 x2 x3 (some (.sh (.list ds))) (some (.sh (.int (k : Int)))) x6 x7 x8 x9 x10 x11 x12) B = .ok (.nx (r13 x0 x2 x3 (some (.sh (.list ds))) (some (.sh (.int (k : Int)))) (some (.ow (.list ts))) x7 x8 x9 x10 x11 x12)) B' ∧ BagOk B' ∧ Bd 4 ts := by
  have g0 : Gd 1400 5 (.list ds) := list_gd (by have := t.len; omega) t.gd
  obtain ⟨d1, e1, B1, h1, s1, ok1, g1⟩ := bent_yl B (.list ds) ok (g0.mono (by decide) (by decide))
  obtain ⟨d2, e2, B2, h2, s2, ok2, g2⟩ := bent_yl B1 (.list ds) ok1 (g0.mono (by decide) (by decide))
  obtain ⟨c1, u1, l1, m1⟩ := cut_lo (x0 := x0) (x2 := x2) (x3 := x3) (x6 := x6) (x7 := x7) (x8 := x8) (x9 := x9) (x10 := x10) (x11 := x11) (x12 := x12) (B := B2) t
  obtain ⟨c2, u2, l2, m2⟩ := cut_hi (x0 := x0) (x2 := x2) (x3 := x3) (x6 := x6) (x7 := x7) (x8 := x8) (x9 := x9) (x10 := x10) (x11 := x11) (x12 := x12) (B := B2) t
  have e : q6a (r13 x0 x2 x3 (some (.sh (.list ds))) (some (.sh (.int (k : Int)))) x6 x7 x8 x9 x10 x11 x12) B = .ok (.ow (.list [.list ds, d1, d2, .list (c1 ++ c2)])) B2 :=
    lst_ok (cons_ok (e := .sh (.list ds)) (B1 := B) rfl rfl (cons_ok (callA (es := [.bg, .sh (.list ds)]) rfl rfl h1) s1 (cons_ok (callA (es := [.bg, .sh (.list ds)]) rfl rfl h2) s2 (cons_ok (bin_ok u1 u2 rfl rfl (addL (by omega))) rfl rfl)))) rfl (by simp)
  refine ⟨_, B2, ?_, ok2, bd_cons (g0.mono (by decide) (by decide)) (bd_cons (g1.mono (by decide) (by decide)) (bd_cons (g2.mono (by decide) (by decide)) (bd_cons (lg (by rw [List.length_append]; omega) fun d hd => (List.mem_append.mp hd).elim (m1 d) (m2 d)) bd_nil)))⟩
  unfold sSet
  rw [e, bind_ok]
  rfl
def q6b : EM := eBin gAdd (eVar 6) (eLst (aCons (eCall 2 m_L_mixed (aCons (eVar 1) (aCons (eVar 4) aNil))) (aCons (eBin gAdd (eVar 4) (eSl (eVar 4) oNone (oSome (eC (.int 1))))) (aCons (eBin gAdd (eSl (eVar 4) (oSome (eVar 5)) (oSome (eBin gAdd (eVar 5) (eC (.int 1))))) (eVar 4)) aNil))))
theorem set6 {m : EM} {ts us : List PyData} {n : Nat} {B' : Bag} (h : m (r13 x0 x2 x3 (some (.sh (.list ds))) (some (.sh (.int (k : Int)))) (some (.sh (.list ts))) x7 x8 x9 x10 x11 x12) B = .ok (.ow (.list us)) B') :
    sFrz [6] (sSet 6 m) (r13 x0 x2 x3 (some (.sh (.list ds))) (some (.sh (.int (k : Int)))) (some (.ow (.list ts))) x7 x8 x9 x10 x11 x12) B = .ok (.nx (r13 x0 x2 x3 (some (.sh (.list ds))) (some (.sh (.int (k : Int)))) (some (.ow (.list us))) x7 x8 x9 x10 x11 x12)) B' := by
  show sSet 6 m (r13 x0 x2 x3 (some (.sh (.list ds))) (some (.sh (.int (k : Int)))) (some (.sh (.list ts))) x7 x8 x9 x10 x11 x12) B = _
  unfold sSet
  rw [h, bind_ok]
  rfl
theorem q6b_ok (ok : BagOk B) (t : Trn ds k) {ts : List PyData} (hb : Bd 4 ts) : ∃ us B', sFrz [6] (sSet 6 q6b) (r13 x0 x2 x3 (some (.sh (.list ds))) (some (.sh (.int (k : Int)))) (some (.ow (.list ts))) x7 x8 x9 x10 x11 x12) B = .ok (.nx (r13 x0 x2 x3 (some (.sh (.list ds))) (some (.sh (.int (k : Int)))) (some (.ow (.list us))) x7 x8 x9 x10 x11 x12)) B' ∧ BagOk B' ∧ Bd 7 us := by
  have len := t.len
  obtain ⟨c0, B1, h0, ok1, l0, m0⟩ := mixed_yl ok (xs := ds) (by omega)
  obtain ⟨c1, u1, l1, m1⟩ := cut_first (x0 := x0) (x2 := x2) (x3 := x3) (x6 := some (.sh (.list ts))) (x7 := x7) (x8 := x8) (x9 := x9) (x10 := x10) (x11 := x11) (x12 := x12) (B := B1) t
  obtain ⟨c2, u2, l2, m2⟩ := cut_one (x0 := x0) (x2 := x2) (x3 := x3) (x6 := some (.sh (.list ts))) (x7 := x7) (x8 := x8) (x9 := x9) (x10 := x10) (x11 := x11) (x12 := x12) (B := B1) t
  have b3 : Bd 3 [.list c0, .list (ds ++ c1), .list (c2 ++ ds)] := bd_cons (lg (by omega) fun d hd => t.gd d (m0 d hd)) (bd_cons (lg (by rw [List.length_append]; omega) fun d hd => (List.mem_append.mp hd).elim (t.gd d) (m1 d)) (bd_cons (lg (by rw [List.length_append]; omega) fun d hd => (List.mem_append.mp hd).elim (m2 d) (t.gd d)) bd_nil))
  have e : q6b (r13 x0 x2 x3 (some (.sh (.list ds))) (some (.sh (.int (k : Int)))) (some (.sh (.list ts))) x7 x8 x9 x10 x11 x12) B = .ok (.ow (.list (ts ++ [.list c0, .list (ds ++ c1), .list (c2 ++ ds)]))) B1 :=
    bin_ok (e1 := .sh (.list ts)) (B1 := B) rfl (lst_ok (cons_ok (callA (es := [.bg, .sh (.list ds)]) rfl rfl h0) rfl (cons_ok (bin_ok (e1 := .sh (.list ds)) (B1 := B1) rfl u1 rfl rfl (addL (by omega))) rfl (cons_ok (bin_ok u2 (e2 := .sh (.list ds)) rfl rfl rfl (addL (by omega))) rfl rfl))) rfl (by simp)) rfl rfl (addL (by have := hb.1; simp; omega))
  exact ⟨_, B1, set6 (n := 0) e, ok1, bd_add hb b3⟩
def q6c : EM := eBin gAdd (eVar 6) (eLst (aCons (eCB gTuple (aCons (eVar 4) aNil)) (aCons (eBin gIx (eVar 4) (eC (.int 0))) (aCons (eBin gIx (eBin gIx (eVar 4) (eC (.int 0))) (eC (.int 1))) (aCons (eLst aNil) aNil)))))
theorem q6c_ok (ok : BagOk B) (t : Trn ds k) {ts : List PyData} (hb : Bd 7 ts) : ∃ us, sFrz [6] (sSet 6 q6c) (r13 x0 x2 x3 (some (.sh (.list ds))) (some (.sh (.int (k : Int)))) (some (.ow (.list ts))) x7 x8 x9 x10 x11 x12) B = .ok (.nx (r13 x0 x2 x3 (some (.sh (.list ds))) (some (.sh (.int (k : Int)))) (some (.ow (.list us))) x7 x8 x9 x10 x11 x12)) B ∧ Bd 11 us := by
  obtain ⟨i, r, g0, hp, gr⟩ := t.zero
  have b4 : Bd 4 [.tuple ds, .tuple [.int i, .list r], .list r, .list []] := bd_cons (lt_ (by have := t.len; omega) t.gd) (bd_cons ((prt_gd hp).mono (by decide) (by decide)) (bd_cons (gr.mono (by decide) (by decide)) (bd_cons (lg (by simp) (by simp)) bd_nil)))
  have a0 : ∀ {x6 : Option EV}, eBin gIx (eVar 4) (eC (.int 0)) (r13 x0 x2 x3 (some (.sh (.list ds))) (some (.sh (.int (k : Int)))) x6 x7 x8 x9 x10 x11 x12) B = .ok (.sh (.tuple [.int i, .list r])) B := fun {_} => bin_ok (e1 := .sh (.list ds)) (e2 := .sh (.int 0)) rfl rfl rfl rfl g0
  have e : q6c (r13 x0 x2 x3 (some (.sh (.list ds))) (some (.sh (.int (k : Int)))) (some (.sh (.list ts))) x7 x8 x9 x10 x11 x12) B = .ok (.ow (.list (ts ++ [.tuple ds, .tuple [.int i, .list r], .list r, .list []]))) B :=
    bin_ok (e1 := .sh (.list ts)) (B1 := B) rfl (lst_ok (cons_ok (cb1_ok (e := .sh (.list ds)) (r := .sh (.tuple ds)) rfl rfl rfl) rfl (cons_ok a0 rfl (cons_ok (bin_ok a0 (e2 := .sh (.int 1)) (e := .sh (.list r)) rfl rfl rfl rfl) rfl (cons_ok nil_ok rfl rfl)))) rfl (by simp)) rfl rfl (addL (by have := hb.1; simp; omega))
  exact ⟨_, set6 (n := 0) e, bd_add hb b4⟩
end
end K14
namespace K14
open PySem PySem.Spec PyProof.Rows L2 Mr
section
variable {x0 x2 x3 x4 x5 x6 x7 x8 x9 x10 x11 x12 : Option EV} {ds : List PyData} {k : Nat} {B : Bag}
def q3 : EM := eCall 2 m_L_kinds (aCons (eVar 1) (aCons (eBin gAdd (eC (.int 1)) (eCall 2 m_L_take (aCons (eVar 1) (aCons (eC (.int 4)) aNil)))) aNil))
theorem q3_ok (ok : BagOk B) : ∃ ks B', sSetS 3 q3 (r13 x0 x2 x3 x4 x5 x6 x7 x8 x9 x10 x11 x12) B = .ok (.nx (r13 x0 x2 (some (.sh (.list ks))) x4 x5 x6 x7 x8 x9 x10 x11 x12)) B' ∧ BagOk B' ∧ ks ≠ [] ∧ ks.length < 2 ^ 32 ∧ ∀ d ∈ ks, Kd d := by
  obtain ⟨r, B1, t1, ok1, hr⟩ := eTake ok (ρ := r13 x0 x2 x3 x4 x5 x6 x7 x8 x9 x10 x11 x12) (j := 1) rfl 4 (by decide) (by decide)
  obtain ⟨ks, e, B', h1, h2, ok', h3, h4⟩ := kinds_yl ok1 (r + 1) (by omega)
  have nk : ks ≠ [] := fun z => by rw [z] at h3; cases h3
  refine ⟨ks, B', ?_, ok', nk, by rw [h3]; omega, h4⟩
  have c : q3 (r13 x0 x2 x3 x4 x5 x6 x7 x8 x9 x10 x11 x12) B = .ok e B' :=
    callA (es := [.bg, .sh (.int ((r + 1 : Nat) : Int))]) (cons_ok (e := .bg) (B1 := B) rfl rfl (cons_ok (bin_ok (e1 := .sh (.int 1)) (B1 := B) rfl t1 rfl rfl (add1 r)) rfl rfl)) rfl h1
  have := setS_ok (i := 3) c (by simp)
  rw [h2] at this
  exact this
def q4 : EM := eCall 3 m_L_train (aCons (eVar 1) (aCons (eVar 3) (aCons (eC (.int 6)) aNil)))
def q5 : EM := eCall 2 m_L_take (aCons (eVar 1) (aCons (eCB gLen (aCons (eVar 4) aNil)) aNil))
theorem q45_ok (ok : BagOk B) {ks : List PyData} (ne : ks ≠ []) (hl : ks.length < 2 ^ 32) (hk : ∀ d ∈ ks, Kd d) : ∃ ds k B1 B', sSetS 4 q4 (r13 x0 x2 (some (.sh (.list ks))) x4 x5 x6 x7 x8 x9 x10 x11 x12) B = .ok (.nx (r13 x0 x2 (some (.sh (.list ks))) (some (.sh (.list ds))) x5 x6 x7 x8 x9 x10 x11 x12)) B1 ∧
    sSetS 5 q5 (r13 x0 x2 (some (.sh (.list ks))) (some (.sh (.list ds))) x5 x6 x7 x8 x9 x10 x11 x12) B1 = .ok (.nx (r13 x0 x2 (some (.sh (.list ks))) (some (.sh (.list ds))) (some (.sh (.int ((k : Nat) : Int)))) x6 x7 x8 x9 x10 x11 x12)) B' ∧ BagOk B' ∧ Trn ds k := by
  obtain ⟨ds, B1, h1, ok1, nd, ld, pd⟩ := train_yl ok hk ne hl
  obtain ⟨k, B2, t2, ok2, hk2⟩ := takeN ok1 ds.length (List.length_pos_iff.mpr nd) (Nat.lt_of_le_of_lt ld (by decide))
  refine ⟨ds, k, B1, B2, ?_, ?_, ok2, nd, ld, pd, hk2⟩
  · have c : q4 (r13 x0 x2 (some (.sh (.list ks))) x4 x5 x6 x7 x8 x9 x10 x11 x12) B = .ok (.ow (.list ds)) B1 := callA (es := [.bg, .sh (.list ks), .sh (.int 6)]) rfl rfl h1
    exact setS_ok (i := 4) c (by simp)
  · have c : q5 (r13 x0 x2 (some (.sh (.list ks))) (some (.sh (.list ds))) x5 x6 x7 x8 x9 x10 x11 x12) B1 = .ok (.sh (.int (k : Int))) B2 := callA (es := [.bg, .sh (.int (ds.length : Int))]) rfl rfl t2
    exact setS_ok (i := 5) c (by simp)
def q7 : EM := eBin gIx (eBin gIx (eVar 4) (eVar 5)) (eC (.int 1))
theorem q7_ok (t : Trn ds k) : ∃ r, sSetS 7 q7 (r13 x0 x2 x3 (some (.sh (.list ds))) (some (.sh (.int (k : Int)))) x6 x7 x8 x9 x10 x11 x12) B = .ok (.nx (r13 x0 x2 x3 (some (.sh (.list ds))) (some (.sh (.int (k : Int)))) x6 (some (.sh (.list r))) x8 x9 x10 x11 x12)) B ∧ Gd 124 3 (.list r) := by
  obtain ⟨i, r, g, hp, gr⟩ := t.at
  refine ⟨r, ?_, gr⟩
  have a : eBin gIx (eVar 4) (eVar 5) (r13 x0 x2 x3 (some (.sh (.list ds))) (some (.sh (.int (k : Int)))) x6 x7 x8 x9 x10 x11 x12) B = .ok (.sh (.tuple [.int i, .list r])) B := bin_ok (e1 := .sh (.list ds)) (e2 := .sh (.int (k : Int))) rfl rfl rfl rfl g
  have c : q7 (r13 x0 x2 x3 (some (.sh (.list ds))) (some (.sh (.int (k : Int)))) x6 x7 x8 x9 x10 x11 x12) B = .ok (.sh (.list r)) B := bin_ok a (e2 := .sh (.int 1)) rfl rfl rfl rfl
  exact setS_ok (i := 7) c (by simp)
def q8 : SM := sFor (iVal (eTup (aCons (eC (.int 2)) (aCons (eC (.int 0)) (aCons (eC (.bool true)) aNil))))) (fName 8)
  (sApp 6 (eBin gAdd (eBin gAdd (eSl (eVar 4) oNone (oSome (eVar 5))) (eLst (aCons (eTup (aCons (eVar 8) (aCons (eVar 7) aNil))) aNil))) (eSl (eVar 4) (oSome (eBin gAdd (eVar 5) (eC (.int 1)))) oNone)))
theorem q8_ok (t : Trn ds k) {ts r : List PyData} (gr : Gd 124 3 (.list r)) (hb : Bd 11 ts) : ∃ us y8, q8 (r13 x0 x2 x3 (some (.sh (.list ds))) (some (.sh (.int (k : Int)))) (some (.ow (.list ts))) (some (.sh (.list r))) x8 x9 x10 x11 x12) B = .ok (.nx (r13 x0 x2 x3 (some (.sh (.list ds))) (some (.sh (.int (k : Int)))) (some (.ow (.list us))) (some (.sh (.list r))) y8 x9 x10 x11 x12)) B ∧ Bd 14 us := by
  have g2 : ∀ d ∈ [PyData.int 2, .int 0, .bool true], Gd 0 0 d := by
    intro d hd
    simp only [List.mem_cons, List.not_mem_nil, or_false] at hd
    rcases hd with rfl | rfl | rfl
    · exact Gd.int (by decide)
    · exact Gd.int (by decide)
    · exact Gd.bool
  obtain ⟨ρ', B', h1, rfl, us, y8, rfl, hu⟩ := forL_ix (f := fName 8) (body := sApp 6 (eBin gAdd (eBin gAdd (eSl (eVar 4) oNone (oSome (eVar 5))) (eLst (aCons (eTup (aCons (eVar 8) (aCons (eVar 7) aNil))) aNil))) (eSl (eVar 4) (oSome (eBin gAdd (eVar 5) (eC (.int 1)))) oNone)))
    (fun j ρ' B' => B' = B ∧ ∃ us y8, ρ' = r13 x0 x2 x3 (some (.sh (.list ds))) (some (.sh (.int (k : Int)))) (some (.ow (.list us))) (some (.sh (.list r))) y8 x9 x10 x11 x12 ∧ Bd (11 + j) us) [PyData.int 2, .int 0, .bool true] 0 (fun j q hq ρ' B' hI => by
      obtain ⟨rfl, us, y8, rfl, hu⟩ := hI
      have hj : j < 3 := (List.getElem?_eq_some_iff.mp hq).1
      refine ⟨r13 x0 x2 x3 (some (.sh (.list ds))) (some (.sh (.int (k : Int)))) (some (.ow (.list us))) (some (.sh (.list r))) (some (.sh q)) x9 x10 x11 x12, rfl, ?_⟩
      obtain ⟨c1, u1, l1, m1⟩ := cut_lo (x0 := x0) (x2 := x2) (x3 := x3) (x6 := some (.ow (.list us))) (x7 := some (.sh (.list r))) (x8 := some (.sh q)) (x9 := x9) (x10 := x10) (x11 := x11) (x12 := x12) (B := B') t
      obtain ⟨c2, u2, l2, m2⟩ := cut_hi (x0 := x0) (x2 := x2) (x3 := x3) (x6 := some (.ow (.list us))) (x7 := some (.sh (.list r))) (x8 := some (.sh q)) (x9 := x9) (x10 := x10) (x11 := x11) (x12 := x12) (B := B') t
      have gq : Gd 126 4 (.tuple [q, .list r]) := (gd_pair (g2 q (List.mem_of_getElem? hq)) gr).mono (by decide) (by decide)
      have tl : eLst (aCons (eTup (aCons (eVar 8) (aCons (eVar 7) aNil))) aNil) (r13 x0 x2 x3 (some (.sh (.list ds))) (some (.sh (.int (k : Int)))) (some (.ow (.list us))) (some (.sh (.list r))) (some (.sh q)) x9 x10 x11 x12) B' = .ok (.ow (.list [.tuple [q, .list r]])) B' :=
        lst_ok (cons_ok (tup_ok (es := [.sh q, .sh (.list r)]) (ds := [q, .list r]) rfl rfl (by simp)) rfl rfl) rfl (by simp)
      have gL : Gd 9200 60 (.list (c1 ++ [.tuple [q, .list r]] ++ c2)) := lg (by simp; omega) fun d hd => by
        rcases List.mem_append.mp hd with h | h
        · rcases List.mem_append.mp h with h | h
          · exact m1 d h
          · rw [List.mem_singleton.mp h]; exact gq
        · exact m2 d h
      refine ⟨r13 x0 x2 x3 (some (.sh (.list ds))) (some (.sh (.int (k : Int)))) (some (.ow (.list (us ++ [.list (c1 ++ [.tuple [q, .list r]] ++ c2)])))) (some (.sh (.list r))) (some (.sh q)) x9 x10 x11 x12, B', ?_, rfl, _, _, rfl, ?_⟩
      · exact app_ok (bin_ok (bin_ok u1 tl rfl rfl (addL (by simp; omega))) u2 rfl rfl (addL (by simp; omega))) rfl rfl (by have := hu.1; omega)
      · have := bd_add hu (bd_cons gL bd_nil)
        exact ⟨by have := this.1; omega, this.2⟩) (r13 x0 x2 x3 (some (.sh (.list ds))) (some (.sh (.int (k : Int)))) (some (.ow (.list ts))) (some (.sh (.list r))) x8 x9 x10 x11 x12) B ⟨rfl, ts, x8, rfl, hb⟩
  refine ⟨us, y8, ?_, hu⟩
  unfold q8 sFor
  rw [show iVal (eTup (aCons (eC (.int 2)) (aCons (eC (.int 0)) (aCons (eC (.bool true)) aNil)))) (r13 x0 x2 x3 (some (.sh (.list ds))) (some (.sh (.int (k : Int)))) (some (.ow (.list ts))) (some (.sh (.list r))) x8 x9 x10 x11 x12) B' = .ok [PyData.int 2, .int 0, .bool true] B' by
    unfold iVal
    rw [tup_ok (es := [.sh (.int 2), .sh (.int 0), .sh (.bool true)]) (ds := [PyData.int 2, .int 0, .bool true]) rfl rfl (by simp)]
    rfl, bind_ok]
  exact h1
def q6d : EM := eBin gAdd (eVar 6) (eLst (aCons (eLst (aCons (eCB gList (aCons (eBin gIx (eVar 4) (eVar 5)) aNil)) aNil)) (aCons (eCall 1 m_L_odd_value (aCons (eVar 1) aNil)) aNil)))
theorem q6d_ok (ok : BagOk B) (t : Trn ds k) {ts : List PyData} (hb : Bd 14 ts) : ∃ us B', sFrz [6] (sSet 6 q6d) (r13 x0 x2 x3 (some (.sh (.list ds))) (some (.sh (.int (k : Int)))) (some (.ow (.list ts))) x7 x8 x9 x10 x11 x12) B = .ok (.nx (r13 x0 x2 x3 (some (.sh (.list ds))) (some (.sh (.int (k : Int)))) (some (.ow (.list us))) x7 x8 x9 x10 x11 x12)) B' ∧ BagOk B' ∧ Bd 16 us := by
  obtain ⟨i, r, g, hp, gr⟩ := t.at
  obtain ⟨o, B1, h1, ok1, ho⟩ := eOdd ok (ρ := r13 x0 x2 x3 (some (.sh (.list ds))) (some (.sh (.int (k : Int)))) (some (.sh (.list ts))) x7 x8 x9 x10 x11 x12) (j := 1) rfl
  have gi : Gd 300 5 (.list [.int i, .list r]) := by
    obtain ⟨i', r', e, gi, _⟩ := hp
    cases e
    refine (Gd.list (n := 124) (m := 3) (fun d hd => ?_)).mono (by simp) (by decide)
    simp only [List.mem_cons, List.not_mem_nil, or_false] at hd
    rcases hd with rfl | rfl
    · exact gi.mono (by decide) (by decide)
    · exact gr
  have gl : Gd 9200 60 (.list [.list [.int i, .list r]]) := (Gd.list (n := 300) (m := 5) (fun d hd => by rw [List.mem_singleton.mp hd]; exact gi)).mono (by simp) (by decide)
  have b2 : Bd 2 [.list [.list [.int i, .list r]], o] := bd_cons gl (bd_cons ((odd_gd o ho).mono (by decide) (by decide)) bd_nil)
  have a : eBin gIx (eVar 4) (eVar 5) (r13 x0 x2 x3 (some (.sh (.list ds))) (some (.sh (.int (k : Int)))) (some (.sh (.list ts))) x7 x8 x9 x10 x11 x12) B = .ok (.sh (.tuple [.int i, .list r])) B := bin_ok (e1 := .sh (.list ds)) (e2 := .sh (.int (k : Int))) rfl rfl rfl rfl g
  have e : q6d (r13 x0 x2 x3 (some (.sh (.list ds))) (some (.sh (.int (k : Int)))) (some (.sh (.list ts))) x7 x8 x9 x10 x11 x12) B = .ok (.ow (.list (ts ++ [.list [.list [.int i, .list r]], o]))) B1 :=
    bin_ok (e1 := .sh (.list ts)) (B1 := B) rfl (lst_ok (cons_ok (lst_ok (cons_ok (cb1_ok a (r := .ow (.list [.int i, .list r])) rfl rfl) rfl rfl) rfl (by simp)) rfl (cons_ok h1 rfl rfl)) rfl (by simp)) rfl rfl (addL (by have := hb.1; simp; omega))
  exact ⟨_, B1, set6 (n := 0) e, ok1, bd_add hb b2⟩
def turnB : SM := sSeq (sSetS 3 q3) (sSeq (sSetS 4 q4) (sSeq (sSetS 5 q5) (sSeq (sSet 6 q6a) (sSeq (sFrz [6] (sSet 6 q6b)) (sSeq (sFrz [6] (sSet 6 q6c)) (sSeq (sSetS 7 q7) (sSeq q8 (sSeq (sFrz [6] (sSet 6 q6d)) (sFrz [6] (sFor (iVal (eVar 6)) (fName 9) thingB))))))))))
theorem lawS_is : m_lawS = sSeq (sFor (iRange (aCons (eC (.int 10)) aNil)) (fName 2) turnB) (sRet (eC (.bool true))) := rfl
end
end K14
namespace K14
open PySem PySem.Spec PyProof.Rows L2 Mr
abbrev InvT (x0 : Option EV) (ρ : Mr.Env) (B : Bag) : Prop := BagOk B ∧ ∃ x2 x3 x4 x5 x6 x7 x8 x9 x10 x11 x12, ρ = r13 x0 x2 x3 x4 x5 x6 x7 x8 x9 x10 x11 x12
theorem turn_ok {x0 : Option EV} {ρ : Mr.Env} {B : Bag} (h : InvT x0 ρ B) : ∃ ρ' B', turnB ρ B = .ok (.nx ρ') B' ∧ InvT x0 ρ' B' := by
  obtain ⟨ok, x2, x3, x4, x5, x6, x7, x8, x9, x10, x11, x12, rfl⟩ := h
  obtain ⟨ks, B1, h1, ok1, nk, lk, hk⟩ := q3_ok ok (x0 := x0) (x2 := x2) (x3 := x3) (x4 := x4) (x5 := x5) (x6 := x6) (x7 := x7) (x8 := x8) (x9 := x9) (x10 := x10) (x11 := x11) (x12 := x12)
  obtain ⟨ds, k, B2, B3, h2, h3, ok3, t⟩ := q45_ok ok1 nk lk hk (x0 := x0) (x2 := x2) (x4 := x4) (x5 := x5) (x6 := x6) (x7 := x7) (x8 := x8) (x9 := x9) (x10 := x10) (x11 := x11) (x12 := x12)
  obtain ⟨t1, B4, h4, ok4, b4⟩ := q6a_ok ok3 t (x0 := x0) (x2 := x2) (x3 := some (.sh (.list ks))) (x6 := x6) (x7 := x7) (x8 := x8) (x9 := x9) (x10 := x10) (x11 := x11) (x12 := x12)
  obtain ⟨t2, B5, h5, ok5, b5⟩ := q6b_ok ok4 t b4 (x0 := x0) (x2 := x2) (x3 := some (.sh (.list ks))) (x7 := x7) (x8 := x8) (x9 := x9) (x10 := x10) (x11 := x11) (x12 := x12)
  obtain ⟨t3, h6, b6⟩ := q6c_ok ok5 t b5 (x0 := x0) (x2 := x2) (x3 := some (.sh (.list ks))) (x7 := x7) (x8 := x8) (x9 := x9) (x10 := x10) (x11 := x11) (x12 := x12)
  obtain ⟨r, h7, gr⟩ := q7_ok t (x0 := x0) (x2 := x2) (x3 := some (.sh (.list ks))) (x6 := some (.ow (.list t3))) (x7 := x7) (x8 := x8) (x9 := x9) (x10 := x10) (x11 := x11) (x12 := x12) (B := B5)
  obtain ⟨t4, y8, h8, b8⟩ := q8_ok t gr b6 (x0 := x0) (x2 := x2) (x3 := some (.sh (.list ks))) (x8 := x8) (x9 := x9) (x10 := x10) (x11 := x11) (x12 := x12) (B := B5)
  obtain ⟨ts, B6, h9, ok6, b9⟩ := q6d_ok ok5 t b8 (x0 := x0) (x2 := x2) (x3 := some (.sh (.list ks))) (x7 := some (.sh (.list r))) (x8 := y8) (x9 := x9) (x10 := x10) (x11 := x11) (x12 := x12)
  obtain ⟨ρ', B', h10, ok7, y9, y10, y11, y12, rfl⟩ := forL_inv (f := fName 9) (body := thingB) (fun ρ' B' => BagOk B' ∧ ∃ y9 y10 y11 y12, ρ' = r13 x0 x2 (some (.sh (.list ks))) (some (.sh (.list ds))) (some (.sh (.int (k : Int)))) (some (.sh (.list ts))) (some (.sh (.list r))) y8 y9 y10 y11 y12) ts (fun q hq ρ' B' hI => by
      obtain ⟨okI, y9, y10, y11, y12, rfl⟩ := hI
      refine ⟨r13 x0 x2 (some (.sh (.list ks))) (some (.sh (.list ds))) (some (.sh (.int (k : Int)))) (some (.sh (.list ts))) (some (.sh (.list r))) y8 (some (.sh q)) y10 y11 y12, rfl, ?_⟩
      obtain ⟨z10, z11, z12, hz⟩ := thing_ok (b9.2 q hq) (x0 := x0) (x2 := x2) (x3 := some (.sh (.list ks))) (x4 := some (.sh (.list ds))) (x5 := some (.sh (.int (k : Int)))) (x6 := some (.sh (.list ts))) (x7 := some (.sh (.list r))) (x8 := y8) (x10 := y10) (x11 := y11) (x12 := y12) (B := B')
      exact ⟨_, _, hz, okI, _, _, _, _, rfl⟩) (r13 x0 x2 (some (.sh (.list ks))) (some (.sh (.list ds))) (some (.sh (.int (k : Int)))) (some (.sh (.list ts))) (some (.sh (.list r))) y8 x9 x10 x11 x12) B6 ⟨ok6, _, _, _, _, rfl⟩
  refine ⟨r13 x0 x2 (some (.sh (.list ks))) (some (.sh (.list ds))) (some (.sh (.int (k : Int)))) (some (.sh (.list ts))) (some (.sh (.list r))) y8 y9 y10 y11 y12, B', ?_, ok7, _, _, _, _, _, _, _, _, _, _, _, rfl⟩
  unfold turnB
  rw [seq_nx h1, seq_nx h2, seq_nx h3, seq_nx h4, seq_nx h5, seq_nx h6, seq_nx h7, seq_nx h8, seq_nx h9]
  show sFor (iVal (eVar 6)) (fName 9) thingB (r13 x0 x2 (some (.sh (.list ks))) (some (.sh (.list ds))) (some (.sh (.int (k : Int)))) (some (.sh (.list ts))) (some (.sh (.list r))) y8 x9 x10 x11 x12) B6 = _
  unfold sFor
  have iv : iVal (eVar 6) (r13 x0 x2 (some (.sh (.list ks))) (some (.sh (.list ds))) (some (.sh (.int (k : Int)))) (some (.sh (.list ts))) (some (.sh (.list r))) y8 x9 x10 x11 x12) B6 = .ok ts B6 := rfl
  rw [iv, bind_ok]
  exact h10
theorem lawS_ok {B : Bag} (ok : BagOk B) {x0 x2 x3 x4 x5 x6 x7 x8 x9 x10 x11 x12 : Option EV} : ∃ B', m_lawS (r13 x0 x2 x3 x4 x5 x6 x7 x8 x9 x10 x11 x12) B = .ok (.rt (.sh (.bool true))) B' := by
  obtain ⟨ρ', B', h, _⟩ := forL_inv (f := fName 2) (body := turnB) (InvT x0) (rangeD 0 ((10 : Nat) : Int)) (fun q hq ρ' B' hI => by
      obtain ⟨okI, x2, x3, x4, x5, x6, x7, x8, x9, x10, x11, x12, rfl⟩ := hI
      refine ⟨r13 x0 (some (.sh q)) x3 x4 x5 x6 x7 x8 x9 x10 x11 x12, rfl, ?_⟩
      obtain ⟨ρ2, B2, h1, h2⟩ := turn_ok (x0 := x0) (ρ := r13 x0 (some (.sh q)) x3 x4 x5 x6 x7 x8 x9 x10 x11 x12) (B := B') ⟨okI, _, _, _, _, _, _, _, _, _, _, _, rfl⟩
      exact ⟨ρ2, B2, h1, h2⟩) (r13 x0 x2 x3 x4 x5 x6 x7 x8 x9 x10 x11 x12) B ⟨ok, _, _, _, _, _, _, _, _, _, _, _, rfl⟩
  refine ⟨B', ?_⟩
  rw [lawS_is]
  have f : sFor (iRange (aCons (eC (.int 10)) aNil)) (fName 2) turnB (r13 x0 x2 x3 x4 x5 x6 x7 x8 x9 x10 x11 x12) B = .ok (.nx ρ') B' := by
    unfold sFor
    rw [iRange_ok (n := 10) rfl (by decide), bind_ok]
    exact h
  rw [seq_nx f]
  rfl
end K14
namespace K14
open PySem PySem.Spec PyProof.Rows L2 Mr
section
variable {P : Program} {w : World} {K : PySem.W.Frag} {mg : Str → Option Value} {base : Heap}
abbrev s_bag : Stmt := topS 19
theorem sc_bag : FnScope ["_law_script", "_law_cell"] ["_law_script"] (defScope s_bag) := ⟨rfl, rfl, rfl, by decide +kernel, rfl, by decide +kernel, by decide +kernel⟩
def absI (i : Int) : Int := if i < 0 then -i else i
def spBag (K : PySem.W.Frag) : Sp := fun vs H Q _ => ∃ (a : Addr) (ns : List Int), vs = [.ref a] ∧ SqL K H a (ns.map V.int) ∧ ns.length ≤ 63 ∧ ∀ (H' : Hp) (b c : Addr), Le H H' → b ≠ c → H' c = some (.lst ((ns.map absI).map V.int)) → H' b = some (.lst [.int 0, .int 1234567891, .int 0, .ref c]) → Q (.ref b) H'
theorem sq_le {H H' : Hp} {a : Addr} {xs : List V} (l : Le H H') (h : SqL K H a xs) : SqL K H' a xs := by
  rcases h with (h | ⟨o, h⟩) | h
  · exact .inl (.inl (l _ _ h))
  · exact .inl (.inr ⟨o, l _ _ h⟩)
  · exact .inr h
theorem cut63 {xs : List V} (h : xs.length ≤ 63) : cutV xs none (some 63) = xs := by
  have e : cutV xs none (some 63) = cutL xs none (some ((63 : Nat) : Int)) := rfl
  rw [e, cutL_to, List.take_of_length_le (by omega)]
theorem ok_bag {f : Addr} {fd : FuncData} (F : Fun K "_law_bag" "_law_bag" s_bag f fd) (hB : Bl mg) : FnG P w K mg base 1 f fd ["_law_script"] (spBag K) := by
  refine Fun.okG F sc_bag (fun vs H Q E h => ?_) (fun cdv A out s H vs Q E hgu hr h => ?_)
  · obtain ⟨a, ns, rfl, _⟩ := h
    rfl
  · obtain ⟨a, ns, rfl, hS, hlen, q⟩ := h
    refine ⟨_, show PSs (Cx.nox (cxOf CX0 P w K mg base ["_law_script", "_law_cell"] "_law_bag" (defScope s_bag) f cdv A out s H E)) (defBody s_bag) _ from pss_one (ps_ret (pe_lst (pa_cons pe_int (pa_cons pe_int (pa_cons pe_int (pa_cons (pe_lc (by rfl) sc_bag.nd (own := [("_law_cell", 1)]) (pi_list (pe_slice sl_list (pv 0) po_none (po_some pe_int)))
      (blkOk_by (N := ["_law_script", "_law_cell"]) (sc := defScope s_bag) (by decide +kernel)) (fun _ _ _ _ _ => pg_name (i := 1) sc_bag.nd rfl (by first | exact Or.inl rfl | exact Or.inr rfl)) (fun _ _ _ _ _ => pts_nil)
      (fun _ _ _ _ _ => pe_callB call_abs (by rfl) hB.abs_ PyProof.Rows.boot_abs (pa_cons (pv 1) pa_nil))) pa_nil)))))), ?_⟩
    have hl : (ns.map V.int).length ≤ 63 := by rw [List.length_map]; exact hlen
    refine ⟨.ref a, rfl, 63, rfl, a, ns.map V.int, rfl, hS, fun t ht => ?_⟩
    rw [cut63 hl]
    have l1 : Le H (upd H t (.lst (ns.map V.int))) := Le.new ht
    refine ⟨t, rfl, ⟨ns.map V.int, .inl (.inl upd_same)⟩, fun D hD => ?_⟩
    have hDt : D ≠ t := fun e => by rw [e, upd_same] at hD; cases hD
    have l2 : Le (upd H t (.lst (ns.map V.int))) (upd (upd H t (.lst (ns.map V.int))) D (.lst [])) := Le.new hD
    have hHD : H D = none := by
      cases z : H D with
      | none => rfl
      | some o => rw [l1 _ _ z] at hD; cases hD
    refine ⟨fun i m Hc => i + m = ns.length ∧ Le H Hc ∧ Hc t = some (.lst (ns.map V.int)) ∧ Hc D = some (.lst (((ns.take i).map absI).map V.int)), ⟨ns.length, by omega, l1.trans l2, by rw [upd_ne (Ne.symm hDt), upd_same], by rw [upd_same]; rfl⟩, fun i m Hc hW => ?_⟩
    obtain ⟨em, lc, et, ed⟩ := hW
    have hT : SqL K Hc t (ns.map V.int) := .inl (.inl et)
    by_cases hi : i < ns.length
    · right
      have gi : (ns.map V.int)[i]? = some (.int ns[i]) := by
        rw [List.getElem?_map, List.getElem?_eq_getElem hi]; rfl
      refine ⟨⟨_, _, hT, gi⟩, fun H' => Le H H' ∧ H' t = some (.lst (ns.map V.int)) ∧ H' D = some (.lst (((ns.take (i + 1)).map absI).map V.int)), fun H' ⟨z1, z2, z3⟩ => ⟨m - 1, by omega, by omega, z1, z2, z3⟩, fun x H' hy => ?_⟩
      obtain ⟨rfl, fv⟩ := hy
      have ev : x = .int ns[i] := Option.some.inj ((fv _ hT).symm.trans gi)
      subst ev
      refine ⟨rfl, ?_⟩
      simp only [tYes, if_true]
      refine ⟨.int ns[i], rfl, ns[i], rfl, _, ed, ?_, ?_, ?_, ?_⟩
      · rw [List.length_map, List.length_map, List.length_take]
        have := sz (n := 64) (by decide)
        omega
      · intro b o hb
        have : b ≠ D := fun e => by rw [e, hHD] at hb; cases hb
        rw [upd_ne this]; exact lc b o hb
      · rw [upd_ne (Ne.symm hDt)]; exact et
      · rw [upd_same, List.take_add_one, List.getElem?_eq_getElem hi, List.map_append, List.map_append]
        rfl
    · left
      refine ⟨⟨_, hT, by rw [List.length_map]; omega⟩, ?_⟩
      rw [List.take_of_length_le (by omega)] at ed
      refine ⟨sz (by simp), fun p hp => ?_⟩
      have hpD : p ≠ D := fun e => by rw [e, ed] at hp; cases hp
      refine q _ p D (lc.trans (Le.new hp)) hpD ?_ upd_same
      rw [upd_ne (Ne.symm hpD)]; exact ed
abbrev s_law : Stmt := topS 41
theorem sc_law : FnScope ["_law_script", "_law_bag_here", "_law_turn", "_law_kinds_here", "_law_train_here", "_law_at", "_law_things", "_law_row", "_law_many", "_law_thing", "_law_again", "_law_said", "_law_due"] ["_law_script"] (defScope s_law) := ⟨rfl, rfl, rfl, by decide +kernel, rfl, by decide +kernel, by decide +kernel⟩
def spLaw (K : PySem.W.Frag) : Sp := fun vs H Q _ => ∃ (a : Addr) (ns : List Int), vs = [.ref a] ∧ SqL K H a (ns.map V.int) ∧ ns.length ≤ 63 ∧ ∀ H', Q (.bl true) H'
theorem abs_nn (i : Int) : 0 ≤ absI i := by unfold absI; split <;> omega
theorem law_rest {fa : Addr} (cdv : Value) (A : Around) (out : List PySem.Env) (s : Shared) (H : Hp) (E : XK) (hgu : (A.deeper (envOfC "law" (defScope s_law) s.heap.objs.size fa cdv)).guards = some []) (hr : Room 9 (A.deeper (envOfC "law" (defScope s_law) s.heap.objs.size fa cdv))) (hS : ∃ o, base.get? sysModules = some o) (hB : Bl mg) (G_L_take : FnM P w K mg base 1 "_law_take" 2 m_L_take) (G_L_kinds : FnM P w K mg base 2 "_law_kinds" 2 m_L_kinds) (G_L_train : FnM P w K mg base 5 "_law_train" 3 m_L_train) (G_L_bent : FnM P w K mg base 9 "_law_bent" 2 mm_L_bent) (G_L_mixed : FnM P w K mg base 2 "_law_mixed" 2 m_L_mixed) (G_L_odd_value : FnM P w K mg base 3 "_law_odd_value" 1 m_L_odd_value) (G_L_is_train : FnM P w K mg base 6 "_law_is_train" 1 m_L_is_train) (G_is_train : FnM P w K mg base 6 "is_train" 1 m_is_train) (G_L_alike : FnM P w K mg base 1 "_law_alike" 2 m_L_alike) :
    MSs (Cx.nox (cxOf CX0 P w K mg base ["_law_script", "_law_bag_here", "_law_turn", "_law_kinds_here", "_law_train_here", "_law_at", "_law_things", "_law_row", "_law_many", "_law_thing", "_law_again", "_law_said", "_law_due"] "law" (defScope s_law) fa cdv A out s H E)) ((defBody s_law).drop 1) m_lawS :=
    (mss_cons (ms_for PassesOwn.never (by rfl) (mi_range (by rfl) hB.range_ (ma_cons me_int ma_nil)) (mg_name (i := 2) sc_law.nd rfl (by first | exact Or.inl rfl | exact Or.inr rfl))
    (mss_cons (ms_setS (i := 3) sc_law.nd rfl (by first | exact Or.inl rfl | exact Or.inr rfl) (me_call G_L_kinds hgu (hr.mono (by decide)) (by rfl) (ma_cons (me_var 1 (pv 1)) (ma_cons (me_op op_addM me_int (me_call G_L_take hgu (hr.mono (by decide)) (by rfl) (ma_cons (me_var 1 (pv 1)) (ma_cons me_int ma_nil)))) ma_nil))))
    (mss_cons (ms_setS (i := 4) sc_law.nd rfl (by first | exact Or.inl rfl | exact Or.inr rfl) (me_call G_L_train hgu (hr.mono (by decide)) (by rfl) (ma_cons (me_var 1 (pv 1)) (ma_cons (me_var 3 (pv 3)) (ma_cons me_int ma_nil)))))
    (mss_cons (ms_setS (i := 5) sc_law.nd rfl (by first | exact Or.inl rfl | exact Or.inr rfl) (me_call G_L_take hgu (hr.mono (by decide)) (by rfl) (ma_cons (me_var 1 (pv 1)) (ma_cons (me_cb cr_lenM (by rfl) hB.len_ PySem.boot_len (ma_cons (me_var 4 (pv 4)) ma_nil)) ma_nil))))
    (mss_cons (ms_set (i := 6) sc_law.nd rfl (by first | exact Or.inl rfl | exact Or.inr rfl) (me_lst (ma_cons (me_var 4 (pv 4)) (ma_cons (me_call G_L_bent hgu (hr.mono (by decide)) (by rfl) (ma_cons (me_var 1 (pv 1)) (ma_cons (me_var 4 (pv 4)) ma_nil))) (ma_cons (me_call G_L_bent hgu (hr.mono (by decide)) (by rfl) (ma_cons (me_var 1 (pv 1)) (ma_cons (me_var 4 (pv 4)) ma_nil))) (ma_cons (me_op op_addM (me_sl (me_var 4 (pv 4)) mo_none (mo_some (me_var 5 (pv 5)))) (me_sl (me_var 4 (pv 4)) (mo_some (me_op op_addM (me_var 5 (pv 5)) me_int)) mo_none)) ma_nil))))))
    (mss_cons (ms_frz [6] (ms_set (i := 6) sc_law.nd rfl (by first | exact Or.inl rfl | exact Or.inr rfl) (me_op op_addM (me_var 6 (pv 6)) (me_lst (ma_cons (me_call G_L_mixed hgu (hr.mono (by decide)) (by rfl) (ma_cons (me_var 1 (pv 1)) (ma_cons (me_var 4 (pv 4)) ma_nil))) (ma_cons (me_op op_addM (me_var 4 (pv 4)) (me_sl (me_var 4 (pv 4)) mo_none (mo_some me_int))) (ma_cons (me_op op_addM (me_sl (me_var 4 (pv 4)) (mo_some (me_var 5 (pv 5))) (mo_some (me_op op_addM (me_var 5 (pv 5)) me_int))) (me_var 4 (pv 4))) ma_nil)))))))
    (mss_cons (ms_frz [6] (ms_set (i := 6) sc_law.nd rfl (by first | exact Or.inl rfl | exact Or.inr rfl) (me_op op_addM (me_var 6 (pv 6)) (me_lst (ma_cons (me_ct cr_tupleM (by rfl) hB.tuple_ PyProof.Rows.boot_tuple (ma_cons (me_var 4 (pv 4)) ma_nil)) (ma_cons (me_ix (me_var 4 (pv 4)) me_int) (ma_cons (me_ix (me_ix (me_var 4 (pv 4)) me_int) me_int) (ma_cons (me_lst ma_nil) ma_nil))))))))
    (mss_cons (ms_setS (i := 7) sc_law.nd rfl (by first | exact Or.inl rfl | exact Or.inr rfl) (me_ix (me_ix (me_var 4 (pv 4)) (me_var 5 (pv 5))) me_int))
    (mss_cons (ms_for PassesOwn.never (by rfl) (mi_val (me_tup (ma_cons me_int (ma_cons me_int (ma_cons me_bl ma_nil))))) (mg_name (i := 8) sc_law.nd rfl (by first | exact Or.inl rfl | exact Or.inr rfl))
    (mss_one (ms_app (i := 6) (pv 6) (me_op op_addM (me_op op_addM (me_sl (me_var 4 (pv 4)) mo_none (mo_some (me_var 5 (pv 5)))) (me_lst (ma_cons (me_tup (ma_cons (me_var 8 (pv 8)) (ma_cons (me_var 7 (pv 7)) ma_nil))) ma_nil))) (me_sl (me_var 4 (pv 4)) (mo_some (me_op op_addM (me_var 5 (pv 5)) me_int)) mo_none)))))
    (mss_cons (ms_frz [6] (ms_set (i := 6) sc_law.nd rfl (by first | exact Or.inl rfl | exact Or.inr rfl) (me_op op_addM (me_var 6 (pv 6)) (me_lst (ma_cons (me_lst (ma_cons (me_ct cr_listM (by rfl) hB.list_ PyProof.Rows.boot_list (ma_cons (me_ix (me_var 4 (pv 4)) (me_var 5 (pv 5))) ma_nil)) ma_nil)) (ma_cons (me_call G_L_odd_value hgu (hr.mono (by decide)) (by rfl) (ma_cons (me_var 1 (pv 1)) ma_nil)) ma_nil))))))
    (mss_one (ms_frz [6] (ms_for PassesOwn.never (by rfl) (mi_val (me_var 6 (pv 6))) (mg_name (i := 9) sc_law.nd rfl (by first | exact Or.inl rfl | exact Or.inr rfl))
    (mss_cons (ms_frzA [11, 12] (ms_par2 (i := 11) (j := 12) (by rfl) sc_law.nd rfl rfl (by decide) (by rfl) (by rfl) (me_cb (cr_reprDM hS hgu hr.units) (by rfl) hB.repr_ PyProof.Rows.boot_repr (ma_cons (me_var 9 (pv 9)) ma_nil)) (me_call G_L_is_train hgu (hr.mono (by decide)) (by rfl) (ma_cons (me_var 9 (pv 9)) ma_nil)) (by rfl)))
    (mss_one (ms_for PassesOwn.never (by rfl) (mi_range (by rfl) hB.range_ (ma_cons me_int ma_nil)) (mg_name (i := 10) sc_law.nd rfl (by first | exact Or.inl rfl | exact Or.inr rfl))
    (mss_one (ms_if (mt_not (mt_val (me_call G_L_alike hgu (hr.mono (by decide)) (by rfl) (ma_cons (me_lst (ma_cons (me_call G_is_train hgu (hr.mono (by decide)) (by rfl) (ma_cons (me_var 9 (pv 9)) ma_nil)) (ma_cons (me_cb (cr_reprDM hS hgu hr.units) (by rfl) hB.repr_ PyProof.Rows.boot_repr (ma_cons (me_var 9 (pv 9)) ma_nil)) ma_nil))) (ma_cons (me_lst (ma_cons (me_var 12 (pv 12)) (ma_cons (me_var 11 (pv 11)) ma_nil))) ma_nil)))))
    (mss_one (ms_ret me_bl)) mss_nil))))))))))))))))))
    (mss_one (ms_ret me_bl)))
theorem ok_law {fa fB : Addr} {fd fdB : FuncData} (F : Fun K "law" "law" s_law fa fd) (hS : ∃ o, base.get? sysModules = some o) (GB : FnG P w K mg base 1 fB fdB ["_law_script"] (spBag K)) (mB : mg "_law_bag" = some (.ref fB)) (kB : PySem.W.keepIn K (.ref fB) = true) (bB : Binds K fdB ["_law_script"] []) (hB : Bl mg) (G_L_take : FnM P w K mg base 1 "_law_take" 2 m_L_take) (G_L_kinds : FnM P w K mg base 2 "_law_kinds" 2 m_L_kinds) (G_L_train : FnM P w K mg base 5 "_law_train" 3 m_L_train) (G_L_bent : FnM P w K mg base 9 "_law_bent" 2 mm_L_bent) (G_L_mixed : FnM P w K mg base 2 "_law_mixed" 2 m_L_mixed) (G_L_odd_value : FnM P w K mg base 3 "_law_odd_value" 1 m_L_odd_value) (G_L_is_train : FnM P w K mg base 6 "_law_is_train" 1 m_L_is_train) (G_is_train : FnM P w K mg base 6 "is_train" 1 m_is_train) (G_L_alike : FnM P w K mg base 1 "_law_alike" 2 m_L_alike) : FnG P w K mg base 10 fa fd ["_law_script"] (spLaw K) := by
  refine Fun.okG F sc_law (fun vs H Q E h => ?_) (fun cdv A out s H vs Q E hgu hr h => ?_)
  · obtain ⟨a, ns, rfl, _⟩ := h
    rfl
  · obtain ⟨a, ns, rfl, hL, hlen, q⟩ := h
    refine ⟨_, show PSs (Cx.nox (cxOf CX0 P w K mg base ["_law_script", "_law_bag_here", "_law_turn", "_law_kinds_here", "_law_train_here", "_law_at", "_law_things", "_law_row", "_law_many", "_law_thing", "_law_again", "_law_said", "_law_due"] "law" (defScope s_law) fa cdv A out s H E)) (defBody s_law) _ from pss_cons (ps_set (i := 1) sc_law.nd rfl (.inl rfl) (pe_callG GB hgu (hr.mono (by decide)) (by rfl) mB kB bB (pa_cons (pv 0) pa_nil)))
      (law_rest cdv A out s H E hgu hr hS hB G_L_take G_L_kinds G_L_train G_L_bent G_L_mixed G_L_odd_value G_L_is_train G_is_train G_L_alike), ?_⟩
    refine ⟨.ref a, rfl, a, ns, rfl, hL, hlen, fun H1 b c l ne ec eb => ?_⟩
    have BO : BagOk ⟨0, 1234567891, 0, ns.map absI⟩ := ⟨Int.le_refl _, ⟨by show (0 : Int) ≤ 1234567891; decide, by show (1234567891 : Int) < 2147483647; decide⟩, Int.le_refl _, fun z hz => by
      simp only [List.mem_map] at hz
      obtain ⟨i, _, rfl⟩ := hz
      exact abs_nn i⟩
    have hr1 : HR (b, c) ⟨0, 1234567891, 0, ns.map absI⟩ (upd (fun _ => none) c (.lst ((ns.map absI).map V.int))) H1 := by
      refine ⟨fun x o h => ?_, ?_, ⟨eb, upd_same⟩, BO⟩
      · by_cases e : x = c
        · rw [e, upd_same] at h; rw [e, ec]; exact h
        · rw [upd_ne e] at h; cases h
      · exact upd_ne ne
    obtain ⟨B', hlaw⟩ := lawS_ok BO (x0 := none) (x2 := none) (x3 := none) (x4 := none) (x5 := none) (x6 := none) (x7 := none) (x8 := none) (x9 := none) (x10 := none) (x11 := none) (x12 := none)
    refine ⟨(b, c), H1, _, r13 none none none none none none none none none none none none, _, _, ⟨hr1, Gr.refl hr1.fb, ?_, ?_, ?_⟩, ?_⟩
    · rfl
    · intro i e he
      match i, he with
      | 0, he => cases he
      | 1, he => cases he; exact ⟨_, rfl, rfl⟩
      | 2, he => cases he
      | 3, he => cases he
      | 4, he => cases he
      | 5, he => cases he
      | 6, he => cases he
      | 7, he => cases he
      | 8, he => cases he
      | 9, he => cases he
      | 10, he => cases he
      | 11, he => cases he
      | 12, he => cases he
      | n + 13, he => simp at he
    · intro i j d d' _ he
      match i, he with
      | 0, he => cases he
      | 1, he => cases he
      | 2, he => cases he
      | 3, he => cases he
      | 4, he => cases he
      | 5, he => cases he
      | 6, he => cases he
      | 7, he => cases he
      | 8, he => cases he
      | 9, he => cases he
      | 10, he => cases he
      | 11, he => cases he
      | 12, he => cases he
      | n + 13, he => simp at he
    · rw [hlaw]
      intro v H0' H' _ _ r
      have hv : v = .bl true := Dn.bl_inv r
      rw [hv]
      exact q H'
end
end K14
namespace K14
open PySem PySem.Spec PyProof.Rows L2 Mr
theorem all_mk {l : PySem.W.OpenLaw} {w : World} {K : PySem.W.Frag} {h : Heap} {mg : Str → Option Value} {fa f1 f2 f3 f4 f5 f6 f7 f8 f9 f10 f11 f12 f13 f14 f15 f16 f17 f18 f19 f20 f21 f22 f23 f24 f25 f26 f27 f28 f29 f30 f31 f32 f33 f34 f35 : Addr} (X : K.In h) (G : h.Ns mainGlobals mg) (hfa : mg "law" = some (.ref fa))
    {od1 od2 od3 od4 od5 od6 od7 od8 od9 od10 od11 od12 od13 od14 od15 od16 od17 od18 od19 od20 od21 od22 od23 od24 od25 od26 od27 od28 od29 od30 od31 od32 od33 od34 od35 an1 an2 an3 an4 an5 an6 an7 an8 an9 an10 an11 an12 an13 an14 an15 an16 an17 an18 an19 an20 an21 an22 an23 an24 an25 an26 an27 an28 an29 an30 an31 an32 an33 an34 an35 : Option Addr} {sl1 sl2 sl3 sl4 sl5 sl6 sl7 sl8 sl9 sl10 sl11 sl12 sl13 sl14 sl15 sl16 sl17 sl18 sl19 sl20 sl21 sl22 sl23 sl24 sl25 sl26 sl27 sl28 sl29 sl30 sl31 sl32 sl33 sl34 sl35 : Array (Option Value)} {oc1 kV1 dc1 pm1 cd1 ct1 oc2 kV2 dc2 pm2 cd2 ct2 oc3 kV3 dc3 pm3 cd3 ct3 oc4 kV4 dc4 pm4 cd4 ct4 oc5 kV5 dc5 pm5 cd5 ct5 oc6 kV6 dc6 pm6 cd6 ct6 oc7 kV7 dc7 pm7 cd7 ct7 oc8 kV8 dc8 pm8 cd8 ct8 oc9 kV9 dc9 pm9 cd9 ct9 oc10 kV10 dc10 pm10 cd10 ct10 oc11 kV11 dc11 pm11 cd11 ct11 oc12 kV12 dc12 pm12 cd12 ct12 oc13 kV13 dc13 pm13 cd13 ct13 oc14 kV14 dc14 pm14 cd14 ct14 oc15 kV15 dc15 pm15 cd15 ct15 oc16 kV16 dc16 pm16 cd16 ct16 oc17 kV17 dc17 pm17 cd17 ct17 oc18 kV18 dc18 pm18 cd18 ct18 oc19 kV19 dc19 pm19 cd19 ct19 oc20 kV20 dc20 pm20 cd20 ct20 oc21 kV21 dc21 pm21 cd21 ct21 oc22 kV22 dc22 pm22 cd22 ct22 oc23 kV23 dc23 pm23 cd23 ct23 oc24 kV24 dc24 pm24 cd24 ct24 oc25 kV25 dc25 pm25 cd25 ct25 oc26 kV26 dc26 pm26 cd26 ct26 oc27 kV27 dc27 pm27 cd27 ct27 oc28 kV28 dc28 pm28 cd28 ct28 oc29 kV29 dc29 pm29 cd29 ct29 oc30 kV30 dc30 pm30 cd30 ct30 oc31 kV31 dc31 pm31 cd31 ct31 oc32 kV32 dc32 pm32 cd32 ct32 oc33 kV33 dc33 pm33 cd33 ct33 oc34 kV34 dc34 pm34 cd34 ct34 oc35 kV35 dc35 pm35 cd35 ct35 : Value} {tL tM : Tok}
    (a1 : PySem.W.nsIn K mainGlobals "is_integer" = some (some (.ref f1))) (l1 : K.lookup f1 = some ⟨oc1, od1, .func (PySem.W.fnOf "is_integer" "is_integer" (defArgs s_is_integer) (defBody s_is_integer) (defScope s_is_integer) .none kV1 dc1 pm1 an1 cd1 ct1), sl1⟩) (c1 : PySem.W.codeIn K cd1 "is_integer" = true) (k1 : PySem.W.keepIn K (.ref f1) = true)
    (a2 : PySem.W.nsIn K mainGlobals "is_number" = some (some (.ref f2))) (l2 : K.lookup f2 = some ⟨oc2, od2, .func (PySem.W.fnOf "is_number" "is_number" (defArgs s_is_number) (defBody s_is_number) (defScope s_is_number) .none kV2 dc2 pm2 an2 cd2 ct2), sl2⟩) (c2 : PySem.W.codeIn K cd2 "is_number" = true) (k2 : PySem.W.keepIn K (.ref f2) = true)
    (a3 : PySem.W.nsIn K mainGlobals "is_kind" = some (some (.ref f3))) (l3 : K.lookup f3 = some ⟨oc3, od3, .func (PySem.W.fnOf "is_kind" "is_kind" (defArgs s_is_kind) (defBody s_is_kind) (defScope s_is_kind) .none kV3 dc3 pm3 an3 cd3 ct3), sl3⟩) (c3 : PySem.W.codeIn K cd3 "is_kind" = true) (k3 : PySem.W.keepIn K (.ref f3) = true)
    (a4 : PySem.W.nsIn K mainGlobals "is_cart" = some (some (.ref f4))) (l4 : K.lookup f4 = some ⟨oc4, od4, .func (PySem.W.fnOf "is_cart" "is_cart" (defArgs s_is_cart) (defBody s_is_cart) (defScope s_is_cart) .none kV4 dc4 pm4 an4 cd4 ct4), sl4⟩) (c4 : PySem.W.codeIn K cd4 "is_cart" = true) (k4 : PySem.W.keepIn K (.ref f4) = true)
    (a5 : PySem.W.nsIn K mainGlobals "is_step" = some (some (.ref f5))) (l5 : K.lookup f5 = some ⟨oc5, od5, .func (PySem.W.fnOf "is_step" "is_step" (defArgs s_is_step) (defBody s_is_step) (defScope s_is_step) .none kV5 dc5 pm5 an5 cd5 ct5), sl5⟩) (c5 : PySem.W.codeIn K cd5 "is_step" = true) (k5 : PySem.W.keepIn K (.ref f5) = true)
    (a6 : PySem.W.nsIn K mainGlobals "begin_of" = some (some (.ref f6))) (l6 : K.lookup f6 = some ⟨oc6, od6, .func (PySem.W.fnOf "begin_of" "begin_of" (defArgs s_begin_of) (defBody s_begin_of) (defScope s_begin_of) .none kV6 dc6 pm6 an6 cd6 ct6), sl6⟩) (c6 : PySem.W.codeIn K cd6 "begin_of" = true) (k6 : PySem.W.keepIn K (.ref f6) = true)
    (a7 : PySem.W.nsIn K mainGlobals "end_of" = some (some (.ref f7))) (l7 : K.lookup f7 = some ⟨oc7, od7, .func (PySem.W.fnOf "end_of" "end_of" (defArgs s_end_of) (defBody s_end_of) (defScope s_end_of) .none kV7 dc7 pm7 an7 cd7 ct7), sl7⟩) (c7 : PySem.W.codeIn K cd7 "end_of" = true) (k7 : PySem.W.keepIn K (.ref f7) = true)
    (a8 : PySem.W.nsIn K mainGlobals "couple" = some (some (.ref f8))) (l8 : K.lookup f8 = some ⟨oc8, od8, .func (PySem.W.fnOf "couple" "couple" (defArgs s_couple) (defBody s_couple) (defScope s_couple) .none kV8 dc8 pm8 an8 cd8 ct8), sl8⟩) (c8 : PySem.W.codeIn K cd8 "couple" = true) (k8 : PySem.W.keepIn K (.ref f8) = true)
    (a9 : PySem.W.nsIn K mainGlobals "is_row" = some (some (.ref f9))) (l9 : K.lookup f9 = some ⟨oc9, od9, .func (PySem.W.fnOf "is_row" "is_row" (defArgs s_is_row) (defBody s_is_row) (defScope s_is_row) .none kV9 dc9 pm9 an9 cd9 ct9), sl9⟩) (c9 : PySem.W.codeIn K cd9 "is_row" = true) (k9 : PySem.W.keepIn K (.ref f9) = true)
    (a10 : PySem.W.nsIn K mainGlobals "row_ends" = some (some (.ref f10))) (l10 : K.lookup f10 = some ⟨oc10, od10, .func (PySem.W.fnOf "row_ends" "row_ends" (defArgs s_row_ends) (defBody s_row_ends) (defScope s_row_ends) .none kV10 dc10 pm10 an10 cd10 ct10), sl10⟩) (c10 : PySem.W.codeIn K cd10 "row_ends" = true) (k10 : PySem.W.keepIn K (.ref f10) = true)
    (a11 : PySem.W.nsIn K mainGlobals "is_part" = some (some (.ref f11))) (l11 : K.lookup f11 = some ⟨oc11, od11, .func (PySem.W.fnOf "is_part" "is_part" (defArgs s_is_part) (defBody s_is_part) (defScope s_is_part) .none kV11 dc11 pm11 an11 cd11 ct11), sl11⟩) (c11 : PySem.W.codeIn K cd11 "is_part" = true) (k11 : PySem.W.keepIn K (.ref f11) = true)
    (a12 : PySem.W.nsIn K mainGlobals "is_train" = some (some (.ref f12))) (l12 : K.lookup f12 = some ⟨oc12, od12, .func (PySem.W.fnOf "is_train" "is_train" (defArgs s_is_train) (defBody s_is_train) (defScope s_is_train) .none kV12 dc12 pm12 an12 cd12 ct12), sl12⟩) (c12 : PySem.W.codeIn K cd12 "is_train" = true) (k12 : PySem.W.keepIn K (.ref f12) = true)
    (a13 : PySem.W.nsIn K mainGlobals "_law_take" = some (some (.ref f13))) (l13 : K.lookup f13 = some ⟨oc13, od13, .func (PySem.W.fnOf "_law_take" "_law_take" (defArgs s_L_take) (defBody s_L_take) (defScope s_L_take) .none kV13 dc13 pm13 an13 cd13 ct13), sl13⟩) (c13 : PySem.W.codeIn K cd13 "_law_take" = true) (k13 : PySem.W.keepIn K (.ref f13) = true)
    (a14 : PySem.W.nsIn K mainGlobals "_law_alike" = some (some (.ref f14))) (l14 : K.lookup f14 = some ⟨oc14, od14, .func (PySem.W.fnOf "_law_alike" "_law_alike" (defArgs s_L_alike) (defBody s_L_alike) (defScope s_L_alike) .none kV14 dc14 pm14 an14 cd14 ct14), sl14⟩) (c14 : PySem.W.codeIn K cd14 "_law_alike" = true) (k14 : PySem.W.keepIn K (.ref f14) = true)
    (a15 : PySem.W.nsIn K mainGlobals "_law_one" = some (some (.ref f15))) (l15 : K.lookup f15 = some ⟨oc15, od15, .func (PySem.W.fnOf "_law_one" "_law_one" (defArgs s_L_one) (defBody s_L_one) (defScope s_L_one) .none kV15 dc15 pm15 an15 cd15 ct15), sl15⟩) (c15 : PySem.W.codeIn K cd15 "_law_one" = true) (k15 : PySem.W.keepIn K (.ref f15) = true)
    (a16 : PySem.W.nsIn K mainGlobals "_law_mixed" = some (some (.ref f16))) (l16 : K.lookup f16 = some ⟨oc16, od16, .func (PySem.W.fnOf "_law_mixed" "_law_mixed" (defArgs s_L_mixed) (defBody s_L_mixed) (defScope s_L_mixed) .none kV16 dc16 pm16 an16 cd16 ct16), sl16⟩) (c16 : PySem.W.codeIn K cd16 "_law_mixed" = true) (k16 : PySem.W.keepIn K (.ref f16) = true)
    (a17 : PySem.W.nsIn K mainGlobals "_law_kinds" = some (some (.ref f17))) (l17 : K.lookup f17 = some ⟨oc17, od17, .func (PySem.W.fnOf "_law_kinds" "_law_kinds" (defArgs s_L_kinds) (defBody s_L_kinds) (defScope s_L_kinds) .none kV17 dc17 pm17 an17 cd17 ct17), sl17⟩) (c17 : PySem.W.codeIn K cd17 "_law_kinds" = true) (k17 : PySem.W.keepIn K (.ref f17) = true)
    (a18 : PySem.W.nsIn K mainGlobals "_law_number" = some (some (.ref f18))) (l18 : K.lookup f18 = some ⟨oc18, od18, .func (PySem.W.fnOf "_law_number" "_law_number" (defArgs s_L_number) (defBody s_L_number) (defScope s_L_number) .none kV18 dc18 pm18 an18 cd18 ct18), sl18⟩) (c18 : PySem.W.codeIn K cd18 "_law_number" = true) (k18 : PySem.W.keepIn K (.ref f18) = true)
    (a19 : PySem.W.nsIn K mainGlobals "_law_begin" = some (some (.ref f19))) (l19 : K.lookup f19 = some ⟨oc19, od19, .func (PySem.W.fnOf "_law_begin" "_law_begin" (defArgs s_L_begin) (defBody s_L_begin) (defScope s_L_begin) .none kV19 dc19 pm19 an19 cd19 ct19), sl19⟩) (c19 : PySem.W.codeIn K cd19 "_law_begin" = true) (k19 : PySem.W.keepIn K (.ref f19) = true)
    (a20 : PySem.W.nsIn K mainGlobals "_law_end" = some (some (.ref f20))) (l20 : K.lookup f20 = some ⟨oc20, od20, .func (PySem.W.fnOf "_law_end" "_law_end" (defArgs s_L_end) (defBody s_L_end) (defScope s_L_end) .none kV20 dc20 pm20 an20 cd20 ct20), sl20⟩) (c20 : PySem.W.codeIn K cd20 "_law_end" = true) (k20 : PySem.W.keepIn K (.ref f20) = true)
    (a21 : PySem.W.nsIn K mainGlobals "_law_step_on" = some (some (.ref f21))) (l21 : K.lookup f21 = some ⟨oc21, od21, .func (PySem.W.fnOf "_law_step_on" "_law_step_on" (defArgs s_L_step_on) (defBody s_L_step_on) (defScope s_L_step_on) .none kV21 dc21 pm21 an21 cd21 ct21), sl21⟩) (c21 : PySem.W.codeIn K cd21 "_law_step_on" = true) (k21 : PySem.W.keepIn K (.ref f21) = true)
    (a22 : PySem.W.nsIn K mainGlobals "_law_row_from" = some (some (.ref f22))) (l22 : K.lookup f22 = some ⟨oc22, od22, .func (PySem.W.fnOf "_law_row_from" "_law_row_from" (defArgs s_L_row_from) (defBody s_L_row_from) (defScope s_L_row_from) .none kV22 dc22 pm22 an22 cd22 ct22), sl22⟩) (c22 : PySem.W.codeIn K cd22 "_law_row_from" = true) (k22 : PySem.W.keepIn K (.ref f22) = true)
    (a23 : PySem.W.nsIn K mainGlobals "_law_round" = some (some (.ref f23))) (l23 : K.lookup f23 = some ⟨oc23, od23, .func (PySem.W.fnOf "_law_round" "_law_round" (defArgs s_L_round) (defBody s_L_round) (defScope s_L_round) .none kV23 dc23 pm23 an23 cd23 ct23), sl23⟩) (c23 : PySem.W.codeIn K cd23 "_law_round" = true) (k23 : PySem.W.keepIn K (.ref f23) = true)
    (a24 : PySem.W.nsIn K mainGlobals "_law_train" = some (some (.ref f24))) (l24 : K.lookup f24 = some ⟨oc24, od24, .func (PySem.W.fnOf "_law_train" "_law_train" (defArgs s_L_train) (defBody s_L_train) (defScope s_L_train) .none kV24 dc24 pm24 an24 cd24 ct24), sl24⟩) (c24 : PySem.W.codeIn K cd24 "_law_train" = true) (k24 : PySem.W.keepIn K (.ref f24) = true)
    (a25 : PySem.W.nsIn K mainGlobals "_law_is_int" = some (some (.ref f25))) (l25 : K.lookup f25 = some ⟨oc25, od25, .func (PySem.W.fnOf "_law_is_int" "_law_is_int" (defArgs s_L_is_int) (defBody s_L_is_int) (defScope s_L_is_int) .none kV25 dc25 pm25 an25 cd25 ct25), sl25⟩) (c25 : PySem.W.codeIn K cd25 "_law_is_int" = true) (k25 : PySem.W.keepIn K (.ref f25) = true)
    (a26 : PySem.W.nsIn K mainGlobals "_law_is_kind" = some (some (.ref f26))) (l26 : K.lookup f26 = some ⟨oc26, od26, .func (PySem.W.fnOf "_law_is_kind" "_law_is_kind" (defArgs s_L_is_kind) (defBody s_L_is_kind) (defScope s_L_is_kind) .none kV26 dc26 pm26 an26 cd26 ct26), sl26⟩) (c26 : PySem.W.codeIn K cd26 "_law_is_kind" = true) (k26 : PySem.W.keepIn K (.ref f26) = true)
    (a27 : PySem.W.nsIn K mainGlobals "_law_is_cart" = some (some (.ref f27))) (l27 : K.lookup f27 = some ⟨oc27, od27, .func (PySem.W.fnOf "_law_is_cart" "_law_is_cart" (defArgs s_L_is_cart) (defBody s_L_is_cart) (defScope s_L_is_cart) .none kV27 dc27 pm27 an27 cd27 ct27), sl27⟩) (c27 : PySem.W.codeIn K cd27 "_law_is_cart" = true) (k27 : PySem.W.keepIn K (.ref f27) = true)
    (a28 : PySem.W.nsIn K mainGlobals "_law_is_step" = some (some (.ref f28))) (l28 : K.lookup f28 = some ⟨oc28, od28, .func (PySem.W.fnOf "_law_is_step" "_law_is_step" (defArgs s_L_is_step) (defBody s_L_is_step) (defScope s_L_is_step) .none kV28 dc28 pm28 an28 cd28 ct28), sl28⟩) (c28 : PySem.W.codeIn K cd28 "_law_is_step" = true) (k28 : PySem.W.keepIn K (.ref f28) = true)
    (a29 : PySem.W.nsIn K mainGlobals "_law_is_row" = some (some (.ref f29))) (l29 : K.lookup f29 = some ⟨oc29, od29, .func (PySem.W.fnOf "_law_is_row" "_law_is_row" (defArgs s_L_is_row) (defBody s_L_is_row) (defScope s_L_is_row) .none kV29 dc29 pm29 an29 cd29 ct29), sl29⟩) (c29 : PySem.W.codeIn K cd29 "_law_is_row" = true) (k29 : PySem.W.keepIn K (.ref f29) = true)
    (a30 : PySem.W.nsIn K mainGlobals "_law_is_part" = some (some (.ref f30))) (l30 : K.lookup f30 = some ⟨oc30, od30, .func (PySem.W.fnOf "_law_is_part" "_law_is_part" (defArgs s_L_is_part) (defBody s_L_is_part) (defScope s_L_is_part) .none kV30 dc30 pm30 an30 cd30 ct30), sl30⟩) (c30 : PySem.W.codeIn K cd30 "_law_is_part" = true) (k30 : PySem.W.keepIn K (.ref f30) = true)
    (a31 : PySem.W.nsIn K mainGlobals "_law_is_train" = some (some (.ref f31))) (l31 : K.lookup f31 = some ⟨oc31, od31, .func (PySem.W.fnOf "_law_is_train" "_law_is_train" (defArgs s_L_is_train) (defBody s_L_is_train) (defScope s_L_is_train) .none kV31 dc31 pm31 an31 cd31 ct31), sl31⟩) (c31 : PySem.W.codeIn K cd31 "_law_is_train" = true) (k31 : PySem.W.keepIn K (.ref f31) = true)
    (a32 : PySem.W.nsIn K mainGlobals "_law_odd_value" = some (some (.ref f32))) (l32 : K.lookup f32 = some ⟨oc32, od32, .func (PySem.W.fnOf "_law_odd_value" "_law_odd_value" (defArgs s_L_odd_value) (defBody s_L_odd_value) (defScope s_L_odd_value) .none kV32 dc32 pm32 an32 cd32 ct32), sl32⟩) (c32 : PySem.W.codeIn K cd32 "_law_odd_value" = true) (k32 : PySem.W.keepIn K (.ref f32) = true)
    (a33 : PySem.W.nsIn K mainGlobals "_law_bent" = some (some (.ref f33))) (l33 : K.lookup f33 = some ⟨oc33, od33, .func (PySem.W.fnOf "_law_bent" "_law_bent" (defArgs s_L_bent) (defBody s_L_bent) (defScope s_L_bent) .none kV33 dc33 pm33 an33 cd33 ct33), sl33⟩) (c33 : PySem.W.codeIn K cd33 "_law_bent" = true) (k33 : PySem.W.keepIn K (.ref f33) = true)
    (a34 : PySem.W.nsIn K mainGlobals "_law_bag" = some (some (.ref f34))) (l34 : K.lookup f34 = some ⟨oc34, od34, .func (PySem.W.fnOf "_law_bag" "_law_bag" (defArgs s_bag) (defBody s_bag) (defScope s_bag) .none kV34 dc34 pm34 an34 cd34 ct34), sl34⟩) (c34 : PySem.W.codeIn K cd34 "_law_bag" = true) (k34 : PySem.W.keepIn K (.ref f34) = true)
    (a35 : PySem.W.nsIn K mainGlobals "law" = some (some (.ref f35))) (l35 : K.lookup f35 = some ⟨oc35, od35, .func (PySem.W.fnOf "law" "law" (defArgs s_law) (defBody s_law) (defScope s_law) .none kV35 dc35 pm35 an35 cd35 ct35), sl35⟩) (c35 : PySem.W.codeIn K cd35 "law" = true) (k35 : PySem.W.keepIn K (.ref f35) = true)
    (z_len : PySem.W.nsIn K mainGlobals "len" = some none)
    (z_abs : PySem.W.nsIn K mainGlobals "abs" = some none)
    (z_sorted : PySem.W.nsIn K mainGlobals "sorted" = some none)
    (z_repr : PySem.W.nsIn K mainGlobals "repr" = some none)
    (z_min : PySem.W.nsIn K mainGlobals "min" = some none)
    (z_max : PySem.W.nsIn K mainGlobals "max" = some none)
    (z_all : PySem.W.nsIn K mainGlobals "all" = some none)
    (z_any : PySem.W.nsIn K mainGlobals "any" = some none)
    (z_sum : PySem.W.nsIn K mainGlobals "sum" = some none)
    (z_int : PySem.W.nsIn K mainGlobals "int" = some none)
    (z_list : PySem.W.nsIn K mainGlobals "list" = some none)
    (z_tuple : PySem.W.nsIn K mainGlobals "tuple" = some none)
    (z_bool : PySem.W.nsIn K mainGlobals "bool" = some none)
    (z_str : PySem.W.nsIn K mainGlobals "str" = some none)
    (z_dict : PySem.W.nsIn K mainGlobals "dict" = some none)
    (z_range : PySem.W.nsIn K mainGlobals "range" = some none)
    (z_zip : PySem.W.nsIn K mainGlobals "zip" = some none)
    (z_enumerate : PySem.W.nsIn K mainGlobals "enumerate" = some none)
    (z_isinstance : PySem.W.nsIn K mainGlobals "isinstance" = some none)
    (g1 : PySem.W.nsIn K mainGlobals "LETTERS" = some (some (.str "abcdefghijklmnopqrstuvwxyz" tL))) (g2 : PySem.W.nsIn K mainGlobals "MOST_LETTERS" = some (some (.int 8 tM))) :
    ∃ fd : FuncData, (∀ (s : Shared) (v : Value), BindsTo s fd ⟨[v], []⟩ [("_law_script", v)]) ∧ ∀ base : Heap, K.In base → base.Ns mainGlobals mg → (∃ o, base.get? sysModules = some o) → FnG l.prog w K mg base 10 fa fd ["_law_script"] (spLaw K) := by
  have e := hfa.symm.trans (PySem.W.mg_of X G a35)
  cases e
  have F1 := fun_mk (st := s_is_integer) l1 c1 k1
  have F2 := fun_mk (st := s_is_number) l2 c2 k2
  have F3 := fun_mk (st := s_is_kind) l3 c3 k3
  have F4 := fun_mk (st := s_is_cart) l4 c4 k4
  have F5 := fun_mk (st := s_is_step) l5 c5 k5
  have F6 := fun_mk (st := s_begin_of) l6 c6 k6
  have F7 := fun_mk (st := s_end_of) l7 c7 k7
  have F8 := fun_mk (st := s_couple) l8 c8 k8
  have F9 := fun_mk (st := s_is_row) l9 c9 k9
  have F10 := fun_mk (st := s_row_ends) l10 c10 k10
  have F11 := fun_mk (st := s_is_part) l11 c11 k11
  have F12 := fun_mk (st := s_is_train) l12 c12 k12
  have F13 := fun_mk (st := s_L_take) l13 c13 k13
  have F14 := fun_mk (st := s_L_alike) l14 c14 k14
  have F15 := fun_mk (st := s_L_one) l15 c15 k15
  have F16 := fun_mk (st := s_L_mixed) l16 c16 k16
  have F17 := fun_mk (st := s_L_kinds) l17 c17 k17
  have F18 := fun_mk (st := s_L_number) l18 c18 k18
  have F19 := fun_mk (st := s_L_begin) l19 c19 k19
  have F20 := fun_mk (st := s_L_end) l20 c20 k20
  have F21 := fun_mk (st := s_L_step_on) l21 c21 k21
  have F22 := fun_mk (st := s_L_row_from) l22 c22 k22
  have F23 := fun_mk (st := s_L_round) l23 c23 k23
  have F24 := fun_mk (st := s_L_train) l24 c24 k24
  have F25 := fun_mk (st := s_L_is_int) l25 c25 k25
  have F26 := fun_mk (st := s_L_is_kind) l26 c26 k26
  have F27 := fun_mk (st := s_L_is_cart) l27 c27 k27
  have F28 := fun_mk (st := s_L_is_step) l28 c28 k28
  have F29 := fun_mk (st := s_L_is_row) l29 c29 k29
  have F30 := fun_mk (st := s_L_is_part) l30 c30 k30
  have F31 := fun_mk (st := s_L_is_train) l31 c31 k31
  have F32 := fun_mk (st := s_L_odd_value) l32 c32 k32
  have F33 := fun_mk (st := s_L_bent) l33 c33 k33
  have F34 := fun_mk (st := s_bag) l34 c34 k34
  have F35 := fun_mk (st := s_law) l35 c35 k35
  have b1 := F1.binds (ps := ["thing"]) fun _ _ _ _ _ _ us hl => match us, hl with | [_], _ => rfl
  have b2 := F2.binds (ps := ["least", "thing"]) fun _ _ _ _ _ _ us hl => match us, hl with | [_, _], _ => rfl
  have b3 := F3.binds (ps := ["thing"]) fun _ _ _ _ _ _ us hl => match us, hl with | [_], _ => rfl
  have b4 := F4.binds (ps := ["thing"]) fun _ _ _ _ _ _ us hl => match us, hl with | [_], _ => rfl
  have b5 := F5.binds (ps := ["thing"]) fun _ _ _ _ _ _ us hl => match us, hl with | [_], _ => rfl
  have b6 := F6.binds (ps := ["step"]) fun _ _ _ _ _ _ us hl => match us, hl with | [_], _ => rfl
  have b7 := F7.binds (ps := ["step"]) fun _ _ _ _ _ _ us hl => match us, hl with | [_], _ => rfl
  have b8 := F8.binds (ps := ["step", "other"]) fun _ _ _ _ _ _ us hl => match us, hl with | [_, _], _ => rfl
  have b9 := F9.binds (ps := ["thing"]) fun _ _ _ _ _ _ us hl => match us, hl with | [_], _ => rfl
  have b10 := F10.binds (ps := ["row"]) fun _ _ _ _ _ _ us hl => match us, hl with | [_], _ => rfl
  have b11 := F11.binds (ps := ["thing"]) fun _ _ _ _ _ _ us hl => match us, hl with | [_], _ => rfl
  have b12 := F12.binds (ps := ["thing"]) fun _ _ _ _ _ _ us hl => match us, hl with | [_], _ => rfl
  have b13 := F13.binds (ps := ["_law_bag_here", "_law_many"]) fun _ _ _ _ _ _ us hl => match us, hl with | [_, _], _ => rfl
  have b14 := F14.binds (ps := ["_law_found", "_law_due"]) fun _ _ _ _ _ _ us hl => match us, hl with | [_, _], _ => rfl
  have b15 := F15.binds (ps := ["_law_bag_here", "_law_things"]) fun _ _ _ _ _ _ us hl => match us, hl with | [_, _], _ => rfl
  have b16 := F16.binds (ps := ["_law_bag_here", "_law_things"]) fun _ _ _ _ _ _ us hl => match us, hl with | [_, _], _ => rfl
  have b17 := F17.binds (ps := ["_law_bag_here", "_law_many"]) fun _ _ _ _ _ _ us hl => match us, hl with | [_, _], _ => rfl
  have b18 := F18.binds (ps := ["_law_bag_here"]) fun _ _ _ _ _ _ us hl => match us, hl with | [_], _ => rfl
  have b19 := F19.binds (ps := ["_law_step"]) fun _ _ _ _ _ _ us hl => match us, hl with | [_], _ => rfl
  have b20 := F20.binds (ps := ["_law_step"]) fun _ _ _ _ _ _ us hl => match us, hl with | [_], _ => rfl
  have b21 := F21.binds (ps := ["_law_bag_here", "_law_here", "_law_there"]) fun _ _ _ _ _ _ us hl => match us, hl with | [_, _, _], _ => rfl
  have b22 := F22.binds (ps := ["_law_bag_here", "_law_kinds_here", "_law_here", "_law_upto"]) fun _ _ _ _ _ _ us hl => match us, hl with | [_, _, _, _], _ => rfl
  have b23 := F23.binds (ps := ["_law_bag_here", "_law_kinds_here", "_law_here", "_law_upto"]) fun _ _ _ _ _ _ us hl => match us, hl with | [_, _, _, _], _ => rfl
  have b24 := F24.binds (ps := ["_law_bag_here", "_law_kinds_here", "_law_upto"]) fun _ _ _ _ _ _ us hl => match us, hl with | [_, _, _], _ => rfl
  have b25 := F25.binds (ps := ["_law_thing"]) fun _ _ _ _ _ _ us hl => match us, hl with | [_], _ => rfl
  have b26 := F26.binds (ps := ["_law_thing"]) fun _ _ _ _ _ _ us hl => match us, hl with | [_], _ => rfl
  have b27 := F27.binds (ps := ["_law_thing"]) fun _ _ _ _ _ _ us hl => match us, hl with | [_], _ => rfl
  have b28 := F28.binds (ps := ["_law_thing"]) fun _ _ _ _ _ _ us hl => match us, hl with | [_], _ => rfl
  have b29 := F29.binds (ps := ["_law_thing"]) fun _ _ _ _ _ _ us hl => match us, hl with | [_], _ => rfl
  have b30 := F30.binds (ps := ["_law_thing"]) fun _ _ _ _ _ _ us hl => match us, hl with | [_], _ => rfl
  have b31 := F31.binds (ps := ["_law_thing"]) fun _ _ _ _ _ _ us hl => match us, hl with | [_], _ => rfl
  have b32 := F32.binds (ps := ["_law_bag_here"]) fun _ _ _ _ _ _ us hl => match us, hl with | [_], _ => rfl
  have b33 := F33.binds (ps := ["_law_bag_here", "_law_thing"]) fun _ _ _ _ _ _ us hl => match us, hl with | [_, _], _ => rfl
  have b34 := F34.binds (ps := ["_law_script"]) fun _ _ _ _ _ _ us hl => match us, hl with | [_], _ => rfl
  have hB : Bl mg := ⟨PySem.W.mg_none_of X G z_len, PySem.W.mg_none_of X G z_abs, PySem.W.mg_none_of X G z_sorted, PySem.W.mg_none_of X G z_repr, PySem.W.mg_none_of X G z_min, PySem.W.mg_none_of X G z_max, PySem.W.mg_none_of X G z_all, PySem.W.mg_none_of X G z_any, PySem.W.mg_none_of X G z_sum, PySem.W.mg_none_of X G z_int, PySem.W.mg_none_of X G z_list, PySem.W.mg_none_of X G z_tuple, PySem.W.mg_none_of X G z_bool, PySem.W.mg_none_of X G z_str, PySem.W.mg_none_of X G z_dict, PySem.W.mg_none_of X G z_range, PySem.W.mg_none_of X G z_zip, PySem.W.mg_none_of X G z_enumerate, PySem.W.mg_none_of X G z_isinstance⟩
  have g_LETTERS := PySem.W.mg_of X G g1
  have g_MOST_LETTERS := PySem.W.mg_of X G g2
  refine ⟨PySem.W.fnOf "law" "law" (defArgs s_law) (defBody s_law) (defScope s_law) .none kV35 dc35 pm35 an35 cd35 ct35, fun s v => .of_eq rfl, fun base _ _ hS => ?_⟩
  have G_is_integer := ok_is_integer (P := l.prog) (w := w) (base := base) F1 (PySem.W.mg_of X G a1) b1 hB
  have G_is_number := ok_is_number (P := l.prog) (w := w) (base := base) F2 (PySem.W.mg_of X G a2) b2 G_is_integer
  have G_is_kind := ok_is_kind (P := l.prog) (w := w) (base := base) F3 (PySem.W.mg_of X G a3) b3 hB g_MOST_LETTERS g_LETTERS
  have G_is_cart := ok_is_cart (P := l.prog) (w := w) (base := base) F4 (PySem.W.mg_of X G a4) b4 hB G_is_kind
  have G_is_step := ok_is_step (P := l.prog) (w := w) (base := base) F5 (PySem.W.mg_of X G a5) b5 hB G_is_cart
  have G_begin_of := ok_begin_of (P := l.prog) (w := w) (base := base) F6 (PySem.W.mg_of X G a6) b6
  have G_end_of := ok_end_of (P := l.prog) (w := w) (base := base) F7 (PySem.W.mg_of X G a7) b7
  have G_couple := ok_couple (P := l.prog) (w := w) (base := base) F8 (PySem.W.mg_of X G a8) b8 G_end_of G_begin_of
  have G_is_row := ok_is_row (P := l.prog) (w := w) (base := base) F9 (PySem.W.mg_of X G a9) b9 hB G_is_step G_couple
  have G_row_ends := ok_row_ends (P := l.prog) (w := w) (base := base) F10 (PySem.W.mg_of X G a10) b10 G_begin_of G_end_of
  have G_is_part := ok_is_part (P := l.prog) (w := w) (base := base) F11 (PySem.W.mg_of X G a11) b11 hB G_is_number G_is_row G_row_ends
  have G_is_train := ok_is_train (P := l.prog) (w := w) (base := base) F12 (PySem.W.mg_of X G a12) b12 hB G_is_part G_row_ends
  have G_L_take := ok_L_take (P := l.prog) (w := w) (base := base) F13 (PySem.W.mg_of X G a13) b13 hB
  have G_L_alike := ok_L_alike (P := l.prog) (w := w) (base := base) F14 (PySem.W.mg_of X G a14) b14 hB
  have G_L_one := ok_L_one (P := l.prog) (w := w) (base := base) F15 (PySem.W.mg_of X G a15) b15 hB G_L_take
  have G_L_mixed := ok_L_mixed (P := l.prog) (w := w) (base := base) F16 (PySem.W.mg_of X G a16) b16 hB G_L_take
  have G_L_kinds := ok_L_kinds (P := l.prog) (w := w) (base := base) F17 (PySem.W.mg_of X G a17) b17 hB G_L_take
  have G_L_number := ok_L_number (P := l.prog) (w := w) (base := base) F18 (PySem.W.mg_of X G a18) b18 G_L_take
  have G_L_begin := ok_L_begin (P := l.prog) (w := w) (base := base) F19 (PySem.W.mg_of X G a19) b19
  have G_L_end := ok_L_end (P := l.prog) (w := w) (base := base) F20 (PySem.W.mg_of X G a20) b20
  have G_L_step_on := ok_L_step_on (P := l.prog) (w := w) (base := base) F21 (PySem.W.mg_of X G a21) b21 hB G_L_take
  have G_L_row_from := ok_L_row_from (P := l.prog) (w := w) (base := base) F22 (PySem.W.mg_of X G a22) b22 hB G_L_take G_L_one G_L_step_on
  have G_L_round := ok_L_round (P := l.prog) (w := w) (base := base) F23 (PySem.W.mg_of X G a23) b23 G_L_row_from G_L_end G_L_step_on
  have G_L_train := ok_L_train (P := l.prog) (w := w) (base := base) F24 (PySem.W.mg_of X G a24) b24 hB G_L_one G_L_take G_L_number G_L_round G_L_row_from G_L_end
  have G_L_is_int := ok_L_is_int (P := l.prog) (w := w) (base := base) F25 (PySem.W.mg_of X G a25) b25 hB
  have G_L_is_kind := ok_L_is_kind (P := l.prog) (w := w) (base := base) F26 (PySem.W.mg_of X G a26) b26 hB
  have G_L_is_cart := ok_L_is_cart (P := l.prog) (w := w) (base := base) F27 (PySem.W.mg_of X G a27) b27 hB G_L_is_kind
  have G_L_is_step := ok_L_is_step (P := l.prog) (w := w) (base := base) F28 (PySem.W.mg_of X G a28) b28 hB G_L_is_cart
  have G_L_is_row := ok_L_is_row (P := l.prog) (w := w) (base := base) F29 (PySem.W.mg_of X G a29) b29 hB G_L_is_step G_L_end G_L_begin
  have G_L_is_part := ok_L_is_part (P := l.prog) (w := w) (base := base) F30 (PySem.W.mg_of X G a30) b30 hB G_L_is_int G_L_is_row G_L_begin G_L_end
  have G_L_is_train := ok_L_is_train (P := l.prog) (w := w) (base := base) F31 (PySem.W.mg_of X G a31) b31 hB G_L_is_part G_L_begin G_L_end
  have G_L_odd_value := ok_L_odd_value (P := l.prog) (w := w) (base := base) F32 (PySem.W.mg_of X G a32) b32 hB G_L_one
  have G_L_bent := okk_L_bent (P := l.prog) (w := w) (base := base) F33 (PySem.W.mg_of X G a33) b33 hB G_L_take G_L_odd_value
  exact ok_law F35 hS (ok_bag F34 hB) (PySem.W.mg_of X G a34) F34.kp b34 hB G_L_take G_L_kinds G_L_train G_L_bent G_L_mixed G_L_odd_value G_L_is_train G_is_train G_L_alike
end K14
open PySem PySem.W PyProof.Rows
set_option maxHeartbeats 0 in
theorem PySem.Challenge.cw_hookcarts_k14_trains_judged_holds : PySem.Challenge.rw_hookcarts_k14_trains_judged.Holds := by
  w_on; o_law; k_head; (case hw => w_witness2)
  k_fill
  refine Mr.walk_ofS (l := PySem.Challenge.rw_hookcarts_k14_trains_judged) (n := 63) (k := 10) (x := "_law_script") (sp := fun w => K14.spLaw _) (by decide +kernel) rfl (by decide) rfl ⟨rfl, by decide, by decide⟩ (fun w h Y => PySem.W.kIn_of Y) ?F (fun _ _ a ns hl _ _ hS => ⟨a, ns, rfl, hS, hl, fun _ => rfl⟩)
  case F =>
    intro w mg fa h KX G hmg
    refine' K14.all_mk KX G hmg ?a1 ?l1 ?c1 ?k1 ?a2 ?l2 ?c2 ?k2 ?a3 ?l3 ?c3 ?k3 ?a4 ?l4 ?c4 ?k4 ?a5 ?l5 ?c5 ?k5 ?a6 ?l6 ?c6 ?k6 ?a7 ?l7 ?c7 ?k7 ?a8 ?l8 ?c8 ?k8 ?a9 ?l9 ?c9 ?k9 ?a10 ?l10 ?c10 ?k10 ?a11 ?l11 ?c11 ?k11 ?a12 ?l12 ?c12 ?k12 ?a13 ?l13 ?c13 ?k13 ?a14 ?l14 ?c14 ?k14 ?a15 ?l15 ?c15 ?k15 ?a16 ?l16 ?c16 ?k16 ?a17 ?l17 ?c17 ?k17 ?a18 ?l18 ?c18 ?k18 ?a19 ?l19 ?c19 ?k19 ?a20 ?l20 ?c20 ?k20 ?a21 ?l21 ?c21 ?k21 ?a22 ?l22 ?c22 ?k22 ?a23 ?l23 ?c23 ?k23 ?a24 ?l24 ?c24 ?k24 ?a25 ?l25 ?c25 ?k25 ?a26 ?l26 ?c26 ?k26 ?a27 ?l27 ?c27 ?k27 ?a28 ?l28 ?c28 ?k28 ?a29 ?l29 ?c29 ?k29 ?a30 ?l30 ?c30 ?k30 ?a31 ?l31 ?c31 ?k31 ?a32 ?l32 ?c32 ?k32 ?a33 ?l33 ?c33 ?k33 ?a34 ?l34 ?c34 ?k34 ?a35 ?l35 ?c35 ?k35 ?z_len ?z_abs ?z_sorted ?z_repr ?z_min ?z_max ?z_all ?z_any ?z_sum ?z_int ?z_list ?z_tuple ?z_bool ?z_str ?z_dict ?z_range ?z_zip ?z_enumerate ?z_isinstance ?g1 ?g2
    (case a1 => k_is); (case l1 => k_is); (case c1 => k_is); (case k1 => k_is); (case a2 => k_is); (case l2 => k_is); (case c2 => k_is); (case k2 => k_is); (case a3 => k_is); (case l3 => k_is); (case c3 => k_is); (case k3 => k_is); (case a4 => k_is); (case l4 => k_is); (case c4 => k_is); (case k4 => k_is); (case a5 => k_is); (case l5 => k_is); (case c5 => k_is); (case k5 => k_is); (case a6 => k_is); (case l6 => k_is); (case c6 => k_is); (case k6 => k_is); (case a7 => k_is); (case l7 => k_is); (case c7 => k_is); (case k7 => k_is); (case a8 => k_is); (case l8 => k_is); (case c8 => k_is); (case k8 => k_is); (case a9 => k_is); (case l9 => k_is); (case c9 => k_is); (case k9 => k_is); (case a10 => k_is); (case l10 => k_is); (case c10 => k_is); (case k10 => k_is); (case a11 => k_is); (case l11 => k_is); (case c11 => k_is); (case k11 => k_is); (case a12 => k_is); (case l12 => k_is); (case c12 => k_is); (case k12 => k_is); (case a13 => k_is); (case l13 => k_is); (case c13 => k_is); (case k13 => k_is); (case a14 => k_is); (case l14 => k_is); (case c14 => k_is); (case k14 => k_is); (case a15 => k_is); (case l15 => k_is); (case c15 => k_is); (case k15 => k_is); (case a16 => k_is); (case l16 => k_is); (case c16 => k_is); (case k16 => k_is); (case a17 => k_is); (case l17 => k_is); (case c17 => k_is); (case k17 => k_is); (case a18 => k_is); (case l18 => k_is); (case c18 => k_is); (case k18 => k_is); (case a19 => k_is); (case l19 => k_is); (case c19 => k_is); (case k19 => k_is); (case a20 => k_is); (case l20 => k_is); (case c20 => k_is); (case k20 => k_is); (case a21 => k_is); (case l21 => k_is); (case c21 => k_is); (case k21 => k_is); (case a22 => k_is); (case l22 => k_is); (case c22 => k_is); (case k22 => k_is); (case a23 => k_is); (case l23 => k_is); (case c23 => k_is); (case k23 => k_is); (case a24 => k_is); (case l24 => k_is); (case c24 => k_is); (case k24 => k_is); (case a25 => k_is); (case l25 => k_is); (case c25 => k_is); (case k25 => k_is); (case a26 => k_is); (case l26 => k_is); (case c26 => k_is); (case k26 => k_is); (case a27 => k_is); (case l27 => k_is); (case c27 => k_is); (case k27 => k_is); (case a28 => k_is); (case l28 => k_is); (case c28 => k_is); (case k28 => k_is); (case a29 => k_is); (case l29 => k_is); (case c29 => k_is); (case k29 => k_is); (case a30 => k_is); (case l30 => k_is); (case c30 => k_is); (case k30 => k_is); (case a31 => k_is); (case l31 => k_is); (case c31 => k_is); (case k31 => k_is); (case a32 => k_is); (case l32 => k_is); (case c32 => k_is); (case k32 => k_is); (case a33 => k_is); (case l33 => k_is); (case c33 => k_is); (case k33 => k_is); (case a34 => k_is); (case l34 => k_is); (case c34 => k_is); (case k34 => k_is); (case a35 => k_is); (case l35 => k_is); (case c35 => k_is); (case k35 => k_is); (case z_len => k_is); (case z_abs => k_is); (case z_sorted => k_is); (case z_repr => k_is); (case z_min => k_is); (case z_max => k_is); (case z_all => k_is); (case z_any => k_is); (case z_sum => k_is); (case z_int => k_is); (case z_list => k_is); (case z_tuple => k_is); (case z_bool => k_is); (case z_str => k_is); (case z_dict => k_is); (case z_range => k_is); (case z_zip => k_is); (case z_enumerate => k_is); (case z_isinstance => k_is); (case g1 => k_is); (case g2 => k_is)
